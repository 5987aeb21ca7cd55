import PyProof.Rows.All
import Wide.All
import OpenK.AllK
import Wide.FinOn
import HandS.ForMost
import HandS.ForExc
import HandS.Flow
import HandS.Wide
import HandS.TupAny
import HandS.IsInst
import HandS.Defaults
import HandS.ExcOwn
import HandS.Zip
import HandS.Conv
import HandS.TupLen
import HandS.Deep
import HandS.TupMul
import HandS.ExcInit
import HandS.TryMany
import KE.KExcSuper
import HandS.Nested
import KE.KExcIs
import HandS.ExcField
import HandS.ExcIs
import KE.KStateDown
import HandS.Ends
import HandS.More
import HandS.Words
import HandS.WordsExc
import HandS.Head0
import HandS.Head1
import HandS.Head2
import HandS.HeadEnd
import HandS.HeadHook1
import HandS.HeadHook2
import HandS.HotCalls
import HandS.Dict
import HandS.DictTup
import PySem.Challenge.RW_greatersum_k30_whole_weights
set_option Elab.async false
set_option linter.all false
set_option maxRecDepth 100000
/-! The layer of plain data over the hand layer: D (data), Rep (how data lie in the abstract heap), Al, Go (how heaps go on), EV (slots that hold data). -/
namespace G
open PySem PySem.Spec PyProof.Rows L2

/-- plain data -/
inductive D where
  | non | bl (b : Bool) | int (i : Int) | str (x : Str) | lst (xs : List D) | tup (xs : List D) | fn (x : Str) | cel | lsf (xs : List D) | dct (ks : List D)
/-- what is known of the module: its written part, its names -/
structure KM where
  K : PySem.W.Frag
  mg : Str → Option Value
/-- a dict told by its keys alone, each an object's place -/
def dctO (a : Addr) (as : List Addr) : HO := .ext fun h => (a == sysModules) = false ∧ as.length ≤ sizeLine ∧ ∃ o es ep, h.get? a = some o ∧ o.ExactDict ∧ o.data = .dict es ep ∧ es.toList.map (·.key) = as.map Value.ref
mutual
inductive Rep (C : KM) (G : Hp) : V → D → Prop
  | non : Rep C G .non .non
  | bl (b : Bool) : Rep C G (.bl b) (.bl b)
  | int (i : Int) : Rep C G (.int i) (.int i)
  | str (x : Str) : Rep C G (.str x) (.str x)
  | lst {a : Addr} {xs : List V} {ds : List D} (h : G a = some (.lst xs)) (z : xs.length ≤ sizeLine) (r : Reps C G xs ds) : Rep C G (.ref a) (.lst ds)
  | tup {a : Addr} {xs : List V} {ds : List D} (h : SqT C.K G a xs) (z : xs.length ≤ sizeLine) (r : Reps C G xs ds) : Rep C G (.ref a) (.tup ds)
  | fn {x : Str} {a : Addr} (h : C.mg x = some (.ref a)) : Rep C G (.ref a) (.fn x)
  | lsf {a : Addr} {xs : List V} {ds : List D} (h : SqL C.K G a xs) (z : xs.length ≤ sizeLine) (r : Reps C G xs ds) : Rep C G (.ref a) (.lsf ds)
  | dct {a : Addr} {as : List Addr} {ks : List D} (h : G a = some (dctO a as)) (r : Reps C G (as.map V.ref) ks) : Rep C G (.ref a) (.dct ks)
inductive Reps (C : KM) (G : Hp) : List V → List D → Prop
  | nil : Reps C G [] []
  | cons {v : V} {vs : List V} {d : D} {ds : List D} (h : Rep C G v d) (t : Reps C G vs ds) : Reps C G (v :: vs) (d :: ds)
end
/-- one heap within another -/
def Sub (G H : Hp) : Prop := ∀ a o, G a = some o → H a = some o
theorem Sub.rfl {G : Hp} : Sub G G := fun _ _ h => h
theorem Sub.trans {G H I : Hp} (h : Sub G H) (k : Sub H I) : Sub G I := fun a o e => k a o (h a o e)
theorem Sub.new {G : Hp} {a : Addr} {o : HO} (h : G a = none) : Sub G (upd G a o) := fun b u e => by
  rw [upd_ne (ne_of_none e h)]; exact e
theorem Sub.sqT {K : PySem.W.Frag} {G H : Hp} {a : Addr} {xs : List V} (s : Sub G H) (h : SqT K G a xs) : SqT K H a xs := by
  rcases h with (h | ⟨o, h⟩) | h
  · exact .inl (.inl (s _ _ h))
  · exact .inl (.inr ⟨o, s _ _ h⟩)
  · exact .inr h
theorem Sub.sqL {K : PySem.W.Frag} {G H : Hp} {a : Addr} {xs : List V} (s : Sub G H) (h : SqL K G a xs) : SqL K H a xs := by
  rcases h with (h | ⟨o, h⟩) | h
  · exact .inl (.inl (s _ _ h))
  · exact .inl (.inr ⟨o, s _ _ h⟩)
  · exact .inr h
mutual
theorem Rep.mono {C : KM} {G H : Hp} (s : Sub G H) : ∀ {d : D} {v : V}, Rep C G v d → Rep C H v d
  | .non, _, h => by cases h; exact .non
  | .bl _, _, h => by cases h; exact .bl _
  | .int _, _, h => by cases h; exact .int _
  | .str _, _, h => by cases h; exact .str _
  | .lst ds, _, h => by
    cases h with
    | lst h z r => exact .lst (s _ _ h) z (Reps.mono s r)
  | .tup ds, _, h => by
    cases h with
    | tup h z r => exact .tup (s.sqT h) z (Reps.mono s r)
  | .fn _, _, h => by
    cases h with
    | fn h => exact .fn h
  | .cel, _, h => by cases h
  | .lsf ds, _, h => by
    cases h with
    | lsf h z r => exact .lsf (s.sqL h) z (Reps.mono s r)
  | .dct ks, _, h => by
    cases h with
    | dct h r => exact .dct (s _ _ h) (Reps.mono s r)
theorem Reps.mono {C : KM} {G H : Hp} (s : Sub G H) : ∀ {ds : List D} {vs : List V}, Reps C G vs ds → Reps C H vs ds
  | [], _, h => by cases h; exact .nil
  | d :: ds, _, h => by
    cases h with
    | cons h t => exact .cons (Rep.mono s h) (Reps.mono s t)
end
theorem Reps.length {C : KM} {G : Hp} : ∀ {ds : List D} {vs : List V}, Reps C G vs ds → vs.length = ds.length
  | [], _, h => by cases h; rfl
  | d :: ds, _, h => by
    cases h with
    | cons h t => simp only [List.length_cons, Reps.length t]
theorem Reps.get {C : KM} {G : Hp} : ∀ {ds : List D} {vs : List V} {i : Nat} {d : D}, Reps C G vs ds → ds[i]? = some d → ∃ v, vs[i]? = some v ∧ Rep C G v d
  | [], _, _, _, h, e => by simp at e
  | d :: ds, _, 0, _, h, e => by
    cases h with
    | cons h t => simp at e; subst e; exact ⟨_, rfl, h⟩
  | d :: ds, _, i + 1, _, h, e => by
    cases h with
    | cons h t =>
      obtain ⟨v, e1, r⟩ := Reps.get (i := i) t (by simpa using e)
      exact ⟨v, by simpa using e1, r⟩
theorem Reps.append {C : KM} {G : Hp} : ∀ {ds es : List D} {vs ws : List V}, Reps C G vs ds → Reps C G ws es → Reps C G (vs ++ ws) (ds ++ es)
  | [], _, _, _, h, k => by cases h; exact k
  | d :: ds, _, _, _, h, k => by
    cases h with
    | cons h t => exact .cons h (Reps.append t k)
theorem Reps.take {C : KM} {G : Hp} : ∀ {ds : List D} {vs : List V} (n : Nat), Reps C G vs ds → Reps C G (vs.take n) (ds.take n)
  | _, _, 0, h => by simp only [List.take_zero]; exact .nil
  | [], _, n + 1, h => by cases h; exact .nil
  | d :: ds, _, n + 1, h => by
    cases h with
    | cons h t => exact .cons h (Reps.take n t)
theorem Reps.drop {C : KM} {G : Hp} : ∀ {ds : List D} {vs : List V} (n : Nat), Reps C G vs ds → Reps C G (vs.drop n) (ds.drop n)
  | _, _, 0, h => h
  | [], _, n + 1, h => by cases h; exact .nil
  | d :: ds, _, n + 1, h => by
    cases h with
    | cons h t => exact Reps.drop n t
theorem Reps.set {C : KM} {G : Hp} : ∀ {ds : List D} {vs : List V} (n : Nat) {v : V} {d : D}, Reps C G vs ds → Rep C G v d → Reps C G (vs.set n v) (ds.set n d)
  | [], _, n, _, _, h, _ => by cases h; exact .nil
  | d :: ds, _, 0, _, _, h, r => by
    cases h with
    | cons h t => exact .cons r t
  | d :: ds, _, n + 1, _, _, h, r => by
    cases h with
    | cons h t => exact .cons h (Reps.set n t r)
theorem Reps.replicate {C : KM} {G : Hp} {vs : List V} {ds : List D} (h : Reps C G vs ds) : ∀ n : Nat, Reps C G (List.replicate n vs).flatten (List.replicate n ds).flatten
  | 0 => .nil
  | n + 1 => by
    rw [List.replicate_succ, List.replicate_succ, List.flatten_cons, List.flatten_cons]
    exact h.append (h.replicate n)
theorem Rep.int_ {C : KM} {G : Hp} {v : V} {i : Int} (h : Rep C G v (.int i)) : v = .int i := by cases h; rfl
theorem Rep.bl_ {C : KM} {G : Hp} {v : V} {i : Bool} (h : Rep C G v (.bl i)) : v = .bl i := by cases h; rfl
theorem Rep.str_ {C : KM} {G : Hp} {v : V} {i : Str} (h : Rep C G v (.str i)) : v = .str i := by cases h; rfl
theorem Rep.non_ {C : KM} {G : Hp} {v : V} (h : Rep C G v .non) : v = .non := by cases h; rfl
theorem Rep.lst_ {C : KM} {G : Hp} {v : V} {ds : List D} (h : Rep C G v (.lst ds)) : ∃ a xs, v = .ref a ∧ G a = some (.lst xs) ∧ xs.length ≤ sizeLine ∧ Reps C G xs ds := by
  cases h with
  | lst h z r => exact ⟨_, _, rfl, h, z, r⟩
theorem Rep.tup_ {C : KM} {G : Hp} {v : V} {ds : List D} (h : Rep C G v (.tup ds)) : ∃ a xs, v = .ref a ∧ SqT C.K G a xs ∧ xs.length ≤ sizeLine ∧ Reps C G xs ds := by
  cases h with
  | tup h z r => exact ⟨_, _, rfl, h, z, r⟩
theorem Rep.dct_ {C : KM} {G : Hp} {v : V} {ds : List D} (h : Rep C G v (.dct ds)) : ∃ a as, v = .ref a ∧ G a = some (dctO a as) ∧ Reps C G (as.map V.ref) ds := by
  cases h with
  | dct h r => exact ⟨_, _, rfl, h, r⟩

/-! ### how heaps go on -/
/-- new things alone -/
structure Al (G H G' H' : Hp) : Prop where
  gg : Sub G G'
  hh : Sub H H'
  fr : ∀ a, G a = none → H a ≠ none → G' a = none
  gh : Sub G' H'
theorem Al.rfl {G H : Hp} (h : Sub G H) : Al G H G H := ⟨Sub.rfl, Sub.rfl, fun _ e _ => e, h⟩
theorem Al.trans {G H G1 H1 G2 H2 : Hp} (a : Al G H G1 H1) (b : Al G1 H1 G2 H2) : Al G H G2 H2 :=
  ⟨a.gg.trans b.gg, a.hh.trans b.hh, fun x e n => b.fr x (a.fr x e n) (by
    cases q : H x with
    | none => exact absurd q n
    | some o => rw [a.hh x o q]; simp), b.gh⟩
theorem Al.new {G H : Hp} {p : Addr} {o : HO} (h : Sub G H) (n : H p = none) : Al G H (upd G p o) (upd H p o) := by
  have gn : G p = none := by
    cases q : G p with
    | none => rfl
    | some u => rw [h p u q] at n; cases n
  refine ⟨Sub.new gn, Sub.new n, fun a e ne => ?_, fun a u e => ?_⟩
  · by_cases ha : a = p
    · subst ha; exact absurd n ne
    · rw [upd_ne ha]; exact e
  · by_cases ha : a = p
    · subst ha; rw [upd_same] at e ⊢; exact e
    · rw [upd_ne ha] at e ⊢; exact h a u e
/-- new things, and what stands at M may turn -/
structure Go (G H : Hp) (M : Addr → Prop) (G' H' : Hp) (M' : Addr → Prop) : Prop where
  gg : Sub G G'
  hh : ∀ a o, H a = some o → ¬ M a → H' a = some o
  nn : ∀ a, H a ≠ none → H' a ≠ none
  fr : ∀ a, G a = none → H a ≠ none → ¬ M a → G' a = none
  mm : ∀ a, M' a → M a ∨ H a = none
theorem Go.rfl {G H : Hp} {M : Addr → Prop} : Go G H M G H M := ⟨Sub.rfl, fun _ _ e _ => e, fun _ e => e, fun _ e _ _ => e, fun _ m => .inl m⟩
theorem Go.trans {G H G1 H1 G2 H2 : Hp} {M M1 M2 : Addr → Prop} (a : Go G H M G1 H1 M1) (b : Go G1 H1 M1 G2 H2 M2) : Go G H M G2 H2 M2 := by
  have m1 : ∀ x, H x ≠ none → ¬ M x → ¬ M1 x := fun x n m k => (a.mm x k).elim m n
  refine ⟨a.gg.trans b.gg, fun x o e m => b.hh x o (a.hh x o e m) (m1 x (by rw [e]; simp) m), fun x e => b.nn x (a.nn x e), fun x e n m => b.fr x (a.fr x e n m) (a.nn x n) (m1 x n m), fun x m => ?_⟩
  rcases b.mm x m with m | m
  · exact a.mm x m
  · refine .inr ?_
    cases q : H x with
    | none => rfl
    | some o => exact absurd m (a.nn x (by rw [q]; simp))
theorem Al.go {G H G' H' : Hp} (a : Al G H G' H') (M : Addr → Prop) : Go G H M G' H' M :=
  ⟨a.gg, fun x o e _ => a.hh x o e, fun x n => (by
    cases q : H x with
    | none => exact absurd q n
    | some o => rw [a.hh x o q]; simp), fun x e n _ => a.fr x e n, fun _ m => .inl m⟩

/-! ### slots that hold data -/
abbrev St := L2.St
abbrev Sd := List (Option D)
/-- what the cell holds (a list that a callee may change), if there is one -/
abbrev Kp := Option (List D)
def CellR (C : KM) (G H : Hp) (cs : Option Nat) (σ : St) (κ : Kp) (A : Addr → Prop) : Prop := match κ with
  | none => ∀ a, ¬ A a
  | some ds => ∃ c a vs, cs = some c ∧ σ[c]? = some (some (.ref a)) ∧ H a = some (.lst vs) ∧ vs.length ≤ sizeLine ∧ Reps C G vs ds ∧ G a = none ∧ ∀ b, A b ↔ b = a
structure EV (C : KM) (G H : Hp) (cs : Option Nat) (σ : St) (ρ : Sd) (κ : Kp) (A : Addr → Prop) : Prop where
  gh : Sub G H
  sl : ∀ (i : Nat) (d : D), ρ[i]? = some (some d) → ∃ v, σ[i]? = some (some v) ∧ Rep C G v d
  ce : CellR C G H cs σ κ A
  ln : σ.length = ρ.length
theorem CellR.al {C : KM} {G H G' H' : Hp} {cs : Option Nat} {σ : St} {κ : Kp} {A : Addr → Prop} (h : CellR C G H cs σ κ A) (a : Al G H G' H') : CellR C G' H' cs σ κ A := by
  cases κ with
  | none => exact h
  | some ds =>
    obtain ⟨c, x, vs, h1, h2, h3, h4, h5, h6, h7⟩ := h
    exact ⟨c, x, vs, h1, h2, a.hh _ _ h3, h4, h5.mono a.gg, a.fr x h6 (by rw [h3]; simp), h7⟩
theorem EV.al {C : KM} {G H G' H' : Hp} {cs : Option Nat} {σ : St} {ρ : Sd} {κ : Kp} {A : Addr → Prop} (h : EV C G H cs σ ρ κ A) (a : Al G H G' H') : EV C G' H' cs σ ρ κ A :=
  ⟨a.gh, fun i d e => let ⟨v, e1, r⟩ := h.sl i d e; ⟨v, e1, r.mono a.gg⟩, h.ce.al a, h.ln⟩

/-! ### errors, what an expression gives -/
structure Exn where
  cls : Str
  fs : List (Str × D)
/-- how an error lies: its class, its own dict -/
def ExR (C : KM) (G H : Hp) (cls : Value) (dd : Option Addr) (x : Exn) : Prop :=
  ∃ c d fs, C.mg x.cls = some (.ref c) ∧ cls = .ref c ∧ dd = some d ∧ H d = some (.xd fs) ∧ ∀ n y, x.fs.lookup n = some y → ∃ v, fs.lookup n = some v ∧ Rep C G v y
inductive Out (α : Type) where
  | ok (a : α) (κ : Kp)
  | er (x : Exn) (κ : Kp)
  | bad
def Out.bind {α β : Type} (o : Out α) (k : α → Kp → Out β) : Out β := match o with
  | .ok a κ => k a κ
  | .er x κ => .er x κ
  | .bad => .bad
@[simp] theorem Out.bind_ok {α β : Type} (a : α) (κ : Kp) (k : α → Kp → Out β) : (Out.ok a κ).bind k = k a κ := rfl
@[simp] theorem Out.bind_er {α β : Type} (x : Exn) (κ : Kp) (k : α → Kp → Out β) : (Out.er x κ : Out α).bind k = .er x κ := rfl
@[simp] theorem Out.bind_bad {α β : Type} (k : α → Kp → Out β) : (Out.bad : Out α).bind k = .bad := rfl
abbrev M (α : Type) := Sd → Kp → Out α
/-- what is wanted behind an expression of outcome o: R of what it gives -/
def Res (C : KM) (cs : Option Nat) (W : WX) (σ : St) (ρ : Sd) (G H : Hp) (A : Addr → Prop) {α : Type} (R : α → Hp → Hp → Prop) : Out α → Prop
  | .ok d κ => ∀ G' H', Go G H A G' H' A → EV C G' H' cs σ ρ κ A → R d G' H'
  | .er x κ => ∀ G' H' cls dd, Go G H A G' H' A → EV C G' H' cs σ ρ κ A → ExR C G' H' cls dd x → W cls dd σ H'
  | .bad => False
section
variable {C : KM} {cs : Option Nat} {W : WX} {σ : St} {ρ : Sd} {G H : Hp} {A : Addr → Prop} {α β : Type}
theorem Res.bind {R : β → Hp → Hp → Prop} {o : Out α} {k : α → Kp → Out β} (h : Res C cs W σ ρ G H A R (o.bind k)) :
    Res C cs W σ ρ G H A (fun a G1 H1 => ∃ κ1, EV C G1 H1 cs σ ρ κ1 A ∧ Res C cs W σ ρ G1 H1 A R (k a κ1)) o := by
  cases o with
  | bad => exact h
  | er x κ => exact h
  | ok a κ =>
    intro G1 H1 g1 e1
    refine ⟨κ, e1, ?_⟩
    have h' : Res C cs W σ ρ G H A R (k a κ) := h
    generalize k a κ = o2 at h'
    cases o2 with
    | bad => exact h'
    | er x κ => exact fun G' H' cls dd g e r => h' G' H' cls dd (g1.trans g) e r
    | ok b κ => exact fun G' H' g e => h' G' H' (g1.trans g) e
theorem Res.mono {R R' : α → Hp → Hp → Prop} {o : Out α} (h : Res C cs W σ ρ G H A R o) (k : ∀ a G' H', Sub G G' → R a G' H' → R' a G' H') : Res C cs W σ ρ G H A R' o := by
  cases o with
  | bad => exact h
  | er x κ => exact h
  | ok a κ => exact fun G' H' g e => k a G' H' g.gg (h G' H' g e)
end
end G

set_option Elab.async false
set_option linter.all false
set_option maxRecDepth 100000
/-! Expressions: PX X cs W e f: the expression e gives what f says. -/
namespace G
open PySem PySem.Spec PyProof.Rows L2
abbrev Cx.C (X : Cx) : KM := ⟨X.K, X.mg⟩
structure PXt (C : KM) (cs : Option Nat) (W : WX) (t : TE) (f : M D) : Prop where
  run : ∀ (σ : St) (ρ : Sd) (κ : Kp) (G H : Hp) (A : Addr → Prop) (Q : VK), EV C G H cs σ ρ κ A → Res C cs W σ ρ G H A (fun d G' H' => ∀ v, Rep C G' v d → Q v H') (f ρ κ) → t σ H Q
structure TXt (C : KM) (cs : Option Nat) (W : WX) (t : TT) (f : M Bool) : Prop where
  run : ∀ (σ : St) (ρ : Sd) (κ : Kp) (G H : Hp) (A : Addr → Prop) (Q : Bool → Hp → Prop), EV C G H cs σ ρ κ A → Res C cs W σ ρ G H A (fun b G' H' => Q b H') (f ρ κ) → t σ H Q
/-- arguments: data, or the cell itself -/
inductive ArgsR (C : KM) (G : Hp) (A : Addr → Prop) : List V → List D → Prop
  | nil : ArgsR C G A [] []
  | val {v : V} {vs : List V} {d : D} {ds : List D} (h : Rep C G v d) (t : ArgsR C G A vs ds) : ArgsR C G A (v :: vs) (d :: ds)
  | cel {a : Addr} {vs : List V} {ds : List D} (h : A a) (t : ArgsR C G A vs ds) : ArgsR C G A (.ref a :: vs) (.cel :: ds)
structure AXt (C : KM) (cs : Option Nat) (W : WX) (t : TA) (f : M (List D)) : Prop where
  run : ∀ (σ : St) (ρ : Sd) (κ : Kp) (G H : Hp) (A : Addr → Prop) (Q : List V → Hp → Prop), EV C G H cs σ ρ κ A → Res C cs W σ ρ G H A (fun ds G' H' => ∀ vs, ArgsR C G' A vs ds → Q vs H') (f ρ κ) → t σ H Q
theorem ArgsR.mono {C : KM} {G H : Hp} {A : Addr → Prop} (s : Sub G H) {vs : List V} {ds : List D} (h : ArgsR C G A vs ds) : ArgsR C H A vs ds := by
  induction h with
  | nil => exact .nil
  | val h _ ih => exact .val (h.mono s) ih
  | cel h _ ih => exact .cel h ih
/-- no cell among them -/
def noCel : List D → Bool
  | [] => true
  | .cel :: _ => false
  | _ :: r => noCel r
theorem ArgsR.reps {C : KM} {G : Hp} {A : Addr → Prop} {vs : List V} {ds : List D} (h : ArgsR C G A vs ds) : noCel ds = true → Reps C G vs ds := by
  induction h with
  | nil => exact fun _ => .nil
  | @val v vs d ds h _ ih => exact fun e => .cons h (ih (by cases d <;> first | exact e | cases h))
  | cel _ _ ih => exact fun e => nomatch (show false = true from e)
def PX (X : Cx) (cs : Option Nat) (W : WX) (e : Expr) (f : M D) : Prop := ∃ t, PE X e t ∧ PXt (Cx.C X) cs W t f
def TX (X : Cx) (cs : Option Nat) (W : WX) (e : Expr) (f : M Bool) : Prop := ∃ t, PT X e t ∧ TXt (Cx.C X) cs W t f
/-- a test whatever its whole is (and, or) -/
def WX' (X : Cx) (cs : Option Nat) (W : WX) (e : Expr) (f : M Bool) : Prop := ∃ t, PW X e t ∧ TXt (Cx.C X) cs W t f
def AX (X : Cx) (cs : Option Nat) (W : WX) (es : List Expr) (f : M (List D)) : Prop := ∃ t, PA X es t ∧ AXt (Cx.C X) cs W t f

/-! ### what expressions give -/
def ofO {α : Type} (o : Option α) (κ : Kp) : Out α := match o with
  | some a => .ok a κ
  | none => .bad
@[simp] theorem ofO_some {α : Type} (a : α) (κ : Kp) : ofO (some a) κ = .ok a κ := rfl
@[simp] theorem ofO_none {α : Type} (κ : Kp) : (ofO none κ : Out α) = .bad := rfl
def eVar (i : Nat) : M D := fun ρ κ => match ρ[i]? with
  | some (some d) => .ok d κ
  | _ => .bad
def eC (d : D) : M D := fun _ κ => .ok d κ
def eUn (g : D → Option D) (fa : M D) : M D := fun ρ κ => (fa ρ κ).bind fun x κ => ofO (g x) κ
def eBin (g : D → D → Option D) (fa fb : M D) : M D := fun ρ κ => (fa ρ κ).bind fun x κ => (fb ρ κ).bind fun y κ => ofO (g x y) κ
def aNil : M (List D) := fun _ κ => .ok [] κ
def aCons (fa : M D) (fr : M (List D)) : M (List D) := fun ρ κ => (fa ρ κ).bind fun x κ => (fr ρ κ).bind fun xs κ => .ok (x :: xs) κ
def aCel (fr : M (List D)) : M (List D) := fun ρ κ => match κ with
  | none => .bad
  | some _ => (fr ρ κ).bind fun xs κ => .ok (.cel :: xs) κ
def eArgs (g : List D → Option D) (fa : M (List D)) : M D := fun ρ κ => (fa ρ κ).bind fun xs κ => if noCel xs = true then ofO (g xs) κ else .bad
def eIf (ft : M Bool) (fa fb : M D) : M D := fun ρ κ => (ft ρ κ).bind fun b κ => if b = true then fa ρ κ else fb ρ κ
/-- a value's truth -/
def dTru : D → Option Bool
  | .non => some false
  | .bl b => some b
  | .int i => some (i != 0)
  | .str x => if x.length ≤ sizeLine then some ((x.length : Int) != 0) else none
  | .lst xs => some (!xs.isEmpty)
  | .tup xs => some (!xs.isEmpty)
  | _ => none
def tTru (fa : M D) : M Bool := fun ρ κ => (fa ρ κ).bind fun x κ => ofO (dTru x) κ
def dBool : D → Option Bool
  | .bl b => some b
  | _ => none
def tBl (fa : M D) : M Bool := fun ρ κ => (fa ρ κ).bind fun x κ => ofO (dBool x) κ
def tAnd (fa fb : M Bool) : M Bool := fun ρ κ => (fa ρ κ).bind fun b κ => if b = true then fb ρ κ else .ok false κ
def tOr (fa fb : M Bool) : M Bool := fun ρ κ => (fa ρ κ).bind fun b κ => if b = true then .ok true κ else fb ρ κ
def tNot (fa : M Bool) : M Bool := fun ρ κ => (fa ρ κ).bind fun b κ => .ok (!b) κ
def eAnd (fa fb : M D) : M D := fun ρ κ => (fa ρ κ).bind fun x κ => (ofO (dTru x) κ).bind fun b κ => if b = true then fb ρ κ else .ok x κ
def eOr (fa fb : M D) : M D := fun ρ κ => (fa ρ κ).bind fun x κ => (ofO (dTru x) κ).bind fun b κ => if b = true then .ok x κ else fb ρ κ
def eNot (fa : M D) : M D := fun ρ κ => (fa ρ κ).bind fun x κ => (ofO (dTru x) κ).bind fun b κ => .ok (.bl (!b)) κ
/-- a op b op c -/
def eChain (g g' : D → D → Option D) (fa fb fc : M D) : M D := fun ρ κ => (fa ρ κ).bind fun x κ => (fb ρ κ).bind fun y κ => (ofO ((g x y).bind dBool) κ).bind fun b κ =>
  if b = true then (fc ρ κ).bind fun z κ => ofO (g' y z) κ else .ok (.bl false) κ

/-! ### operations on values -/
def Snd1 (C : KM) (r : V → Hp → VK → Prop) (g : D → Option D) : Prop := ∀ (G H : Hp) (v : V) (d z : D) (Q : VK), Sub G H → Rep C G v d → g d = some z → (∀ G' H' u, Al G H G' H' → Rep C G' u z → Q u H') → r v H Q
def Snd2 (C : KM) (r : R2) (g : D → D → Option D) : Prop := ∀ (G H : Hp) (v w : V) (d e z : D) (Q : VK), Sub G H → Rep C G v d → Rep C G w e → g d e = some z → (∀ G' H' u, Al G H G' H' → Rep C G' u z → Q u H') → r v w H Q
def SndL (C : KM) (r : List V → Hp → VK → Prop) (g : List D → Option D) : Prop := ∀ (G H : Hp) (vs : List V) (ds : List D) (z : D) (Q : VK), Sub G H → Reps C G vs ds → g ds = some z → (∀ G' H' u, Al G H G' H' → Rep C G' u z → Q u H') → r vs H Q
section
variable {C : KM} {cs : Option Nat} {W : WX} {σ : St} {ρ : Sd} {κ : Kp} {G H : Hp} {A : Addr → Prop}
/-- the end of an operation -/
theorem res_ofO {R : D → Hp → Hp → Prop} {o : Option D} {P : Prop} (e : EV C G H cs σ ρ κ A) (h : Res C cs W σ ρ G H A R (ofO o κ))
    (k : ∀ z, o = some z → (∀ G' H', Al G H G' H' → R z G' H') → P) : P := by
  cases o with
  | none => exact (show False from h).elim
  | some z => exact k z rfl fun G' H' a => h G' H' (a.go A) (e.al a)
end
section
variable {X : Cx} {cs : Option Nat} {W : WX} {a b c : Expr} {fa fb fc : M D} {pos : Pos} {rest : List Expr}

theorem px_c {v : V} {d : D} {e : Expr} (h : PE X e (tC v)) (r : ∀ G, Rep (Cx.C X) G v d) : PX X cs W e (eC d) :=
  ⟨_, h, ⟨fun σ ρ κ G H A Q e k => k G H Go.rfl e v (r G)⟩⟩
theorem px_int {i j} : PX X cs W (.Constant (.int i) j pos) (eC (.int i)) := px_c pe_int fun _ => .int i
theorem px_bl {i j} : PX X cs W (.Constant (.bool i) j pos) (eC (.bl i)) := px_c pe_bl fun _ => .bl i
theorem px_non {j} : PX X cs W (.Constant .none j pos) (eC .non) := px_c pe_non fun _ => .non
theorem px_str {i j} : PX X cs W (.Constant (.str i) j pos) (eC (.str i)) := px_c pe_str fun _ => .str i

/-- the names of a scope that are used there: slots by number -/
def nmB (is : List Nat) (N : List Str) (sc : Scope) : Bool := is.all fun i => match N[i]? with
  | some x => (match sc.names.lookup x with
    | some .local => true
    | some .cell => true
    | some .free => true
    | _ => false) && !(x == ("__debug__" : Str)) && !(x == ("__classdict__" : Str))
  | none => false
theorem nm_of {is : List Nat} {N : List Str} {sc : Scope} (h : nmB is N sc = true) {i : Nat} {x : Str} (hi : is.contains i = true) (hN : N[i]? = some x) :
    Vis sc x ∧ (x == ("__debug__" : Str)) = false ∧ (x == ("__classdict__" : Str)) = false := by
  have h1 := List.all_eq_true.mp h i (List.contains_iff_mem.mp hi)
  rw [hN] at h1
  simp only [Bool.and_eq_true, Bool.not_eq_true'] at h1
  obtain ⟨⟨h2, h3⟩, h4⟩ := h1
  refine ⟨?_, h3, h4⟩
  split at h2
  · exact .inl (by assumption)
  · exact .inr (.inl (by assumption))
  · exact .inr (.inr (by assumption))
  · cases h2
theorem px_var {is : List Nat} {N : List Str} {sc : Scope} (i : Nat) {x : Str} (h : nmB is N sc = true) (eN : X.N = N := by rfl) (es : X.env.scope = sc := by rfl) (hi : is.contains i = true := by rfl) (hN : N[i]? = some x := by rfl) : PX X cs W (.Name x pos) (eVar i) := by
  obtain ⟨h1, h2, h3⟩ := nm_of h hi hN
  refine ⟨_, pe_var (i := i) (by rw [eN]; exact hN) (by rw [es]; exact h1) h2 h3, ⟨fun σ ρ κ G H A Q e k => ?_⟩⟩
  have k' : Res (Cx.C X) cs W σ ρ G H A (fun d G' H' => ∀ v, Rep (Cx.C X) G' v d → Q v H') (match ρ[i]? with
    | some (some d) => Out.ok d κ
    | _ => .bad) := k
  split at k'
  · rename_i d hd
    obtain ⟨v, e1, r⟩ := e.sl i d hd
    exact ⟨v, e1, k' G H Go.rfl e v r⟩
  · exact (show False from k').elim
/-- the global names of a scope -/
def glB (xs : List Str) (sc : Scope) : Bool := xs.all fun x => decide (sc.names.lookup x = some .globalImplicit) && !(x == ("__debug__" : Str)) && !(x == ("__name__" : Str))
theorem gl_of {xs : List Str} {sc : Scope} (h : glB xs sc = true) {i : Nat} {x : Str} (hi : xs[i]? = some x) (es : X.env.scope = sc) : Gl X x ∧ (x == ("__debug__" : Str)) = false ∧ x ≠ "__name__" := by
  have h1 := List.all_eq_true.mp h x (List.mem_of_getElem? hi)
  simp only [Bool.and_eq_true, Bool.not_eq_true', decide_eq_true_eq] at h1
  obtain ⟨⟨h2, h3⟩, h4⟩ := h1
  refine ⟨?_, h3, fun e => by rw [e] at h4; simp at h4⟩
  show X.env.scope.names.lookup x = _
  rw [es]; exact h2
/-- a module's name that holds data -/
def GVal (C : KM) (x : Str) (d : D) : Prop := ∃ u v, C.mg x = some u ∧ RelV v u ∧ ∀ G, Rep C G v d
theorem px_glob {xs : List Str} {sc : Scope} {d : D} (i : Nat) {x : Str} (h : glB xs sc = true) (gv : GVal (Cx.C X) x d) (es : X.env.scope = sc := by rfl) (hi : xs[i]? = some x := by rfl) : PX X cs W (.Name x pos) (eC d) := by
  obtain ⟨h1, h2, _⟩ := gl_of h hi es
  obtain ⟨u, v, e1, r, q⟩ := gv
  exact px_c (pe_glob h1 e1 r h2) q

theorem bin_run {r : R2} {g : D → D → Option D} {ta tb : TE} (hs : Snd2 (Cx.C X) r g) (ha : PXt (Cx.C X) cs W ta fa) (hb : PXt (Cx.C X) cs W tb fb) : PXt (Cx.C X) cs W (tOp r ta tb) (eBin g fa fb) := by
  refine ⟨fun σ ρ κ G H A Q e k => ha.run σ ρ κ G H A _ e (Res.mono (Res.bind k) ?_)⟩
  intro x G1 H1 _ ⟨κ1, e1, k1⟩ v rv
  refine hb.run σ ρ κ1 G1 H1 A _ e1 (Res.mono (Res.bind k1) ?_)
  intro y G2 H2 s2 ⟨κ2, e2, k2⟩ w rw'
  exact res_ofO e2 k2 fun z hz q => hs G2 H2 v w x y z Q e2.gh (rv.mono s2) rw' hz fun G' H' u a ru => q G' H' a u ru
theorem px_bin {op : Operator} {r : R2} {g : D → D → Option D} (ho : OpR X (binaryOp op) r) (hs : Snd2 (Cx.C X) r g) (ha : PX X cs W a fa) (hb : PX X cs W b fb) : PX X cs W (.BinOp a op b pos) (eBin g fa fb) := by
  obtain ⟨ta, pa, ra⟩ := ha
  obtain ⟨tb, pb, rb⟩ := hb
  exact ⟨_, pe_op ho pa pb, bin_run hs ra rb⟩
theorem px_un {op : UnaryOp} {r : V → Hp → VK → Prop} {g : D → Option D} (ho : UnR X (unaryOp op) r) (hs : Snd1 (Cx.C X) r g) (ha : PX X cs W a fa) : PX X cs W (.UnaryOp op a pos) (eUn g fa) := by
  obtain ⟨ta, pa, ra⟩ := ha
  refine ⟨_, pe_un ho pa, ⟨fun σ ρ κ G H A Q e k => ra.run σ ρ κ G H A _ e (Res.mono (Res.bind k) ?_)⟩⟩
  intro x G1 H1 _ ⟨κ1, e1, k1⟩ v rv
  exact res_ofO e1 k1 fun z hz q => hs G1 H1 v x z Q e1.gh rv hz fun G' H' u a ru => q G' H' a u ru
theorem px_cmp {op : CmpOp} {r : R2} {g : D → D → Option D} (ho : OpR X (compareOp op) r) (hs : Snd2 (Cx.C X) r g) (ha : PX X cs W a fa) (hb : PX X cs W b fb) (hm : behindInMarks op b = false := by first | exact nomark _ | rfl) : PX X cs W (.Compare a [op] [b] pos) (eBin g fa fb) := by
  obtain ⟨ta, pa, ra⟩ := ha
  obtain ⟨tb, pb, rb⟩ := hb
  exact ⟨_, pe_cmpR ho pa pb hm, bin_run hs ra rb⟩
theorem bl_run {t : TE} {f : M D} (h : PXt (Cx.C X) cs W t f) : TXt (Cx.C X) cs W (tTest t) (tBl f) := by
  refine ⟨fun σ ρ κ G H A Q e k => h.run σ ρ κ G H A _ e (Res.mono (Res.bind k) ?_)⟩
  intro x G1 H1 _ ⟨κ1, e1, k1⟩ v rv
  cases x with
  | bl y =>
    have k2 : Res (Cx.C X) cs W σ ρ G1 H1 A (fun b G' H' => Q b H') (Out.ok y κ1) := k1
    exact ⟨y, rv.bl_, k2 G1 H1 Go.rfl e1⟩
  | _ => exact (show False from k1).elim
theorem tx_cmp {op : CmpOp} {r : R2} {g : D → D → Option D} (ho : OpR X (compareOp op) r) (hs : Snd2 (Cx.C X) r g) (ha : PX X cs W a fa) (hb : PX X cs W b fb) (hm : behindInMarks op b = false := by first | exact nomark _ | rfl) : TX X cs W (.Compare a [op] [b] pos) (tBl (eBin g fa fb)) := by
  obtain ⟨ta, pa, ra⟩ := ha
  obtain ⟨tb, pb, rb⟩ := hb
  exact ⟨_, pt_cmpR ho pa pb hm, bl_run (bin_run hs ra rb)⟩
theorem chain_run {r r' : R2} {g g' : D → D → Option D} {ta tb tc : TE} (hs : Snd2 (Cx.C X) r g) (hs' : Snd2 (Cx.C X) r' g') (ha : PXt (Cx.C X) cs W ta fa) (hb : PXt (Cx.C X) cs W tb fb) (hc : PXt (Cx.C X) cs W tc fc) :
    PXt (Cx.C X) cs W (tChain r r' ta tb tc) (eChain g g' fa fb fc) := by
  refine ⟨fun σ ρ κ G H A Q e k => ha.run σ ρ κ G H A _ e (Res.mono (Res.bind k) ?_)⟩
  intro x G1 H1 _ ⟨κ1, e1, k1⟩ v rv
  refine hb.run σ ρ κ1 G1 H1 A _ e1 (Res.mono (Res.bind k1) ?_)
  intro y G2 H2 s2 ⟨κ2, e2, k2⟩ w rw'
  have k3 := Res.bind k2
  cases hg : g x y with
  | none =>
    rw [hg] at k3
    exact (show False from k3).elim
  | some z =>
    rw [hg] at k3
    cases z with
    | bl bb =>
      refine hs G2 H2 v w x y (.bl bb) _ e2.gh (rv.mono s2) rw' hg fun G3 H3 u a ru => ⟨bb, ru.bl_, ?_⟩
      have k4 : Res (Cx.C X) cs W σ ρ G2 H2 A _ (Out.ok bb κ2) := k3
      obtain ⟨κ3, e3, k5⟩ := k4 G3 H3 (a.go A) (e2.al a)
      cases bb with
      | true =>
        simp only [if_true] at k5 ⊢
        refine hc.run σ ρ κ3 G3 H3 A _ e3 (Res.mono (Res.bind k5) ?_)
        intro z G4 H4 s4 ⟨κ4, e4, k6⟩ w' rz
        exact res_ofO e4 k6 fun z' hz q => hs' G4 H4 w w' y z z' Q e4.gh ((rw'.mono a.gg).mono s4) rz hz fun G' H' u a ru => q G' H' a u ru
      | false =>
        simp only [Bool.false_eq_true, if_false] at k5 ⊢
        exact k5 G3 H3 Go.rfl e3 _ (.bl false)
    | _ => exact (show False from k3).elim
theorem px_chain {op op' : CmpOp} {r r' : R2} {g g' : D → D → Option D} (ho : OpR X (compareOp op) r) (ho' : OpR X (compareOp op') r') (hs : Snd2 (Cx.C X) r g) (hs' : Snd2 (Cx.C X) r' g') (ha : PX X cs W a fa) (hb : PX X cs W b fb) (hc : PX X cs W c fc)
    (hm : lastMarks [op, op'] [b, c] = false := by with_unfolding_all rfl) : PX X cs W (.Compare a [op, op'] [b, c] pos) (eChain g g' fa fb fc) := by
  obtain ⟨ta, pa, ra⟩ := ha
  obtain ⟨tb, pb, rb⟩ := hb
  obtain ⟨tc, pc, rc⟩ := hc
  exact ⟨_, pe_chain ho ho' pa pb pc hm, chain_run hs hs' ra rb rc⟩
theorem tx_chain {op op' : CmpOp} {r r' : R2} {g g' : D → D → Option D} (ho : OpR X (compareOp op) r) (ho' : OpR X (compareOp op') r') (hs : Snd2 (Cx.C X) r g) (hs' : Snd2 (Cx.C X) r' g') (ha : PX X cs W a fa) (hb : PX X cs W b fb) (hc : PX X cs W c fc)
    (hm : lastMarks [op, op'] [b, c] = false := by with_unfolding_all rfl) : TX X cs W (.Compare a [op, op'] [b, c] pos) (tBl (eChain g g' fa fb fc)) := by
  obtain ⟨ta, pa, ra⟩ := ha
  obtain ⟨tb, pb, rb⟩ := hb
  obtain ⟨tc, pc, rc⟩ := hc
  exact ⟨_, pt_chain ho ho' pa pb pc hm, bl_run (chain_run hs hs' ra rb rc)⟩

/-! ### truth, and, or, not -/
theorem dTru_ok {C : KM} {G H : Hp} {v : V} {d : D} {k : Bool} (s : Sub G H) (r : Rep C G v d) (h : dTru d = some k) : TruV C.K v H k := by
  have emp : ∀ {xs : List V} {ds : List D}, Reps C G xs ds → xs.isEmpty = ds.isEmpty := fun {xs ds} r => by
    cases r <;> rfl
  cases r with
  | non => exact (Option.some.inj h).symm
  | bl b => exact (Option.some.inj h).symm
  | int i => exact (Option.some.inj h).symm
  | str x =>
    unfold dTru at h
    simp only at h
    split at h
    · rename_i hx
      exact ⟨hx, (Option.some.inj h).symm⟩
    · cases h
  | lst e z r => exact .inl ⟨_, .inl (.inl (s _ _ e)), by rw [emp r]; exact (Option.some.inj h).symm⟩
  | tup e z r => exact .inr (.inl ⟨_, s.sqT e, by rw [emp r]; exact (Option.some.inj h).symm⟩)
  | fn _ => cases h
  | lsf e z r => cases h
  | dct e r => cases h
theorem tx_tru (ha : PX X cs W a fa) (he : ∀ whole, isTrue a X.env whole = (do let v ← whole; standAt a.pos; holding [v] (truthy v)) := by intro _; rfl) : TX X cs W a (tTru fa) := by
  obtain ⟨ta, pa, ra⟩ := ha
  refine ⟨_, pt_truth pa he, ⟨fun σ ρ κ G H A Q e k => ra.run σ ρ κ G H A _ e (Res.mono (Res.bind k) ?_)⟩⟩
  intro x G1 H1 _ ⟨κ1, e1, k1⟩ v rv
  cases hx : dTru x with
  | none =>
    rw [hx] at k1
    exact (show False from k1).elim
  | some b =>
    rw [hx] at k1
    have k2 : Res (Cx.C X) cs W σ ρ G1 H1 A (fun b G' H' => Q b H') (Out.ok b κ1) := k1
    exact ⟨b, dTru_ok e1.gh rv hx, k2 G1 H1 Go.rfl e1⟩
theorem tx_not {f : M Bool} (ha : TX X cs W a f) : TX X cs W (.UnaryOp .Not a pos) (G.tNot f) := by
  obtain ⟨ta, pa, ra⟩ := ha
  refine ⟨_, pt_not pa, ⟨fun σ ρ κ G H A Q e k => ra.run σ ρ κ G H A _ e (Res.mono (Res.bind k) ?_)⟩⟩
  intro x G1 H1 _ ⟨κ1, e1, k1⟩
  exact k1 G1 H1 Go.rfl e1
theorem tx_w {f : M Bool} (h : WX' X cs W a f) : TX X cs W a f := by
  obtain ⟨t, p, r⟩ := h
  exact ⟨t, p.pt, r⟩
theorem wx_and1 {f : M Bool} (ha : TX X cs W a f) : WX' X cs W (.BoolOp .And [a] pos) f := by
  obtain ⟨t, p, r⟩ := ha
  exact ⟨t, pw_and1 p, r⟩
theorem wx_or1 {f : M Bool} (ha : TX X cs W a f) : WX' X cs W (.BoolOp .Or [a] pos) f := by
  obtain ⟨t, p, r⟩ := ha
  exact ⟨t, pw_or1 p, r⟩
theorem wx_and {f f' : M Bool} (ha : TX X cs W a f) (hb : WX' X cs W (.BoolOp .And (b :: rest) pos) f') : WX' X cs W (.BoolOp .And (a :: b :: rest) pos) (G.tAnd f f') := by
  obtain ⟨ta, pa, ra⟩ := ha
  obtain ⟨tb, pb, rb⟩ := hb
  refine ⟨_, pw_and pa pb, ⟨fun σ ρ κ G H A Q e k => ra.run σ ρ κ G H A _ e (Res.mono (Res.bind k) ?_)⟩⟩
  intro x G1 H1 _ ⟨κ1, e1, k1⟩
  cases x with
  | true =>
    simp only [if_true] at k1 ⊢
    exact rb.run σ ρ κ1 G1 H1 A Q e1 k1
  | false =>
    simp only [Bool.false_eq_true, if_false] at k1 ⊢
    exact k1 G1 H1 Go.rfl e1
theorem wx_or {f f' : M Bool} (ha : TX X cs W a f) (hb : WX' X cs W (.BoolOp .Or (b :: rest) pos) f') : WX' X cs W (.BoolOp .Or (a :: b :: rest) pos) (G.tOr f f') := by
  obtain ⟨ta, pa, ra⟩ := ha
  obtain ⟨tb, pb, rb⟩ := hb
  refine ⟨_, pw_or pa pb, ⟨fun σ ρ κ G H A Q e k => ra.run σ ρ κ G H A _ e (Res.mono (Res.bind k) ?_)⟩⟩
  intro x G1 H1 _ ⟨κ1, e1, k1⟩
  cases x with
  | true =>
    simp only [if_true] at k1 ⊢
    exact k1 G1 H1 Go.rfl e1
  | false =>
    simp only [Bool.false_eq_true, if_false] at k1 ⊢
    exact rb.run σ ρ κ1 G1 H1 A Q e1 k1
theorem px_one {op} (ha : PX X cs W a fa) : PX X cs W (.BoolOp op [a] pos) fa := by
  obtain ⟨t, p, r⟩ := ha
  exact ⟨t, pe_one p, r⟩
theorem tru_run {ta : TE} (ra : PXt (Cx.C X) cs W ta fa) {σ : St} {ρ : Sd} {κ : Kp} {G H : Hp} {A : Addr → Prop} {α : Type} {R : α → Hp → Hp → Prop} {F : D → Bool → Kp → Out α} {P : V → Bool → Hp → Prop} (e : EV (Cx.C X) G H cs σ ρ κ A)
    (k : Res (Cx.C X) cs W σ ρ G H A R ((fa ρ κ).bind fun x κ => (ofO (dTru x) κ).bind fun b κ => F x b κ))
    (h : ∀ x b v G1 H1 κ1, EV (Cx.C X) G1 H1 cs σ ρ κ1 A → Rep (Cx.C X) G1 v x → Res (Cx.C X) cs W σ ρ G1 H1 A R (F x b κ1) → P v b H1) : ta σ H fun v H1 => ∃ b, TruV X.K v H1 b ∧ P v b H1 := by
  refine ra.run σ ρ κ G H A _ e (Res.mono (Res.bind k) ?_)
  intro x G1 H1 _ ⟨κ1, e1, k1⟩ v rv
  cases hx : dTru x with
  | none =>
    rw [hx] at k1
    exact (show False from k1).elim
  | some b =>
    rw [hx] at k1
    exact ⟨b, dTru_ok e1.gh rv hx, h x b v G1 H1 κ1 e1 rv k1⟩
theorem px_and (ha : PX X cs W a fa) (hb : PX X cs W (.BoolOp .And (b :: rest) pos) fb) : PX X cs W (.BoolOp .And (a :: b :: rest) pos) (eAnd fa fb) := by
  obtain ⟨ta, pa, ra⟩ := ha
  obtain ⟨tb, pb, rb⟩ := hb
  refine ⟨_, pe_andT pa pb, ⟨fun σ ρ κ G H A Q e k => tru_run (F := fun x b κ => if b = true then fb ρ κ else .ok x κ) (P := fun v k H1 => if k = true then tb σ H1 Q else Q v H1) ra e k ?_⟩⟩
  intro x b v G1 H1 κ1 e1 rv k1
  cases b with
  | true =>
    simp only [if_true] at k1 ⊢
    exact rb.run σ ρ κ1 G1 H1 A Q e1 k1
  | false =>
    simp only [Bool.false_eq_true, if_false] at k1 ⊢
    exact k1 G1 H1 Go.rfl e1 v rv
theorem px_or (ha : PX X cs W a fa) (hb : PX X cs W (.BoolOp .Or (b :: rest) pos) fb) : PX X cs W (.BoolOp .Or (a :: b :: rest) pos) (eOr fa fb) := by
  obtain ⟨ta, pa, ra⟩ := ha
  obtain ⟨tb, pb, rb⟩ := hb
  refine ⟨_, pe_orT pa pb, ⟨fun σ ρ κ G H A Q e k => tru_run (F := fun x b κ => if b = true then .ok x κ else fb ρ κ) (P := fun v k H1 => if k = true then Q v H1 else tb σ H1 Q) ra e k ?_⟩⟩
  intro x b v G1 H1 κ1 e1 rv k1
  cases b with
  | true =>
    simp only [if_true] at k1 ⊢
    exact k1 G1 H1 Go.rfl e1 v rv
  | false =>
    simp only [Bool.false_eq_true, if_false] at k1 ⊢
    exact rb.run σ ρ κ1 G1 H1 A Q e1 k1
theorem px_not (ha : PX X cs W a fa) : PX X cs W (.UnaryOp .Not a pos) (eNot fa) := by
  obtain ⟨ta, pa, ra⟩ := ha
  refine ⟨_, pe_notT pa, ⟨fun σ ρ κ G H A Q e k => tru_run (F := fun x b κ => Out.ok (D.bl (!b)) κ) (P := fun v k H1 => Q (.bl (!k)) H1) ra e k ?_⟩⟩
  intro x b v G1 H1 κ1 e1 rv k1
  exact k1 G1 H1 Go.rfl e1 _ (.bl _)
theorem px_if {ft : M Bool} (ht : TX X cs W c ft) (ha : PX X cs W a fa) (hb : PX X cs W b fb) : PX X cs W (.IfExp c a b pos) (eIf ft fa fb) := by
  obtain ⟨tc, pc, rc⟩ := ht
  obtain ⟨ta, pa, ra⟩ := ha
  obtain ⟨tb, pb, rb⟩ := hb
  refine ⟨_, pe_ifExp pc pa pb, ⟨fun σ ρ κ G H A Q e k => rc.run σ ρ κ G H A _ e (Res.mono (Res.bind k) ?_)⟩⟩
  intro x G1 H1 _ ⟨κ1, e1, k1⟩
  cases x with
  | true =>
    simp only [if_true] at k1 ⊢
    exact ra.run σ ρ κ1 G1 H1 A Q e1 k1
  | false =>
    simp only [Bool.false_eq_true, if_false] at k1 ⊢
    exact rb.run σ ρ κ1 G1 H1 A Q e1 k1

/-! ### arguments, displays, built-ins by their names -/
variable {e : Expr} {es : List Expr} {fs : M (List D)}
theorem ax_nil : AX X cs W [] aNil := ⟨_, pa_nil, ⟨fun σ ρ κ G H A Q e k => k G H Go.rfl e [] .nil⟩⟩
theorem ax_cons (ha : PX X cs W e fa) (hr : AX X cs W es fs) (hs : starEach (e :: es) X.env = (false, eval e X.env) :: starEach es X.env := by rfl) : AX X cs W (e :: es) (aCons fa fs) := by
  obtain ⟨ta, pa, ra⟩ := ha
  obtain ⟨tr, pr, rr⟩ := hr
  refine ⟨_, pa_cons pa pr hs, ⟨fun σ ρ κ G H A Q e k => ra.run σ ρ κ G H A _ e (Res.mono (Res.bind k) ?_)⟩⟩
  intro x G1 H1 _ ⟨κ1, e1, k1⟩ v rv
  refine rr.run σ ρ κ1 G1 H1 A _ e1 (Res.mono (Res.bind k1) ?_)
  intro xs G2 H2 s2 ⟨κ2, e2, k2⟩ vs rvs
  exact k2 G2 H2 Go.rfl e2 _ (.val (rv.mono s2) rvs)
/-- the cell's own name as an argument -/
theorem ax_cel {is : List Nat} {N : List Str} {sc : Scope} (i : Nat) {x : Str} {p : Pos} (h : nmB is N sc = true) (hc : cs = some i) (hr : AX X cs W es fs) (eN : X.N = N := by rfl) (esc : X.env.scope = sc := by rfl) (hi : is.contains i = true := by rfl) (hN : N[i]? = some x := by rfl)
    (hs : starEach (.Name x p :: es) X.env = (false, eval (.Name x p) X.env) :: starEach es X.env := by rfl) : AX X cs W (.Name x p :: es) (aCel fs) := by
  obtain ⟨h1, h2, h3⟩ := nm_of h hi hN
  obtain ⟨tr, pr, rr⟩ := hr
  refine ⟨_, pa_cons (pe_var (i := i) (by rw [eN]; exact hN) (by rw [esc]; exact h1) h2 h3) pr hs, ⟨fun σ ρ κ G H A Q e k => ?_⟩⟩
  cases κ with
  | none => exact (show False from k).elim
  | some ds =>
    obtain ⟨c, a, vs, c1, c2, c3, c4, c5, c6, c7⟩ := id e.ce
    rw [hc] at c1
    cases c1
    refine ⟨_, c2, rr.run σ ρ (some ds) G H A _ e (Res.mono (Res.bind k) ?_)⟩
    intro xs G2 H2 s2 ⟨κ2, e2, k2⟩ vs rvs
    exact k2 G2 H2 Go.rfl e2 _ (.cel ((c7 a).mpr rfl) rvs)
theorem args_run {t : TA} {r : List V → Hp → VK → Prop} {g : List D → Option D} (hs : SndL (Cx.C X) r g) (h : AXt (Cx.C X) cs W t fs) : PXt (Cx.C X) cs W (fun σ H Q => t σ H fun vs H1 => r vs H1 Q) (eArgs g fs) := by
  refine ⟨fun σ ρ κ G H A Q e k => h.run σ ρ κ G H A _ e (Res.mono (Res.bind k) ?_)⟩
  intro xs G1 H1 _ ⟨κ1, e1, k1⟩ vs rvs
  by_cases hn : noCel xs = true
  · rw [if_pos hn] at k1
    exact res_ofO e1 k1 fun z hz q => hs G1 H1 vs xs z Q e1.gh (rvs.reps hn) hz fun G' H' u a ru => q G' H' a u ru
  · rw [if_neg hn] at k1
    exact (show False from k1).elim
def dTup (ds : List D) : Option D := if ds.length ≤ sizeLine then some (.tup ds) else none
def dLst (ds : List D) : Option D := if ds.length ≤ sizeLine then some (.lst ds) else none
theorem px_tup {x1} (h : AX X cs W es fs) : PX X cs W (.Tuple es x1 pos) (eArgs dTup fs) := by
  obtain ⟨t, p, r⟩ := h
  refine ⟨_, pe_tup p, args_run (r := fun xs H1 Q => xs.length ≤ sizeLine ∧ ∀ p, H1 p = none → Q (.ref p) (upd H1 p (.tup xs))) ?_ r⟩
  intro G H vs ds z Q s rs hz k
  unfold dTup at hz
  split at hz
  · rename_i hl
    cases hz
    rw [← rs.length] at hl
    refine ⟨hl, fun p hp => k _ _ _ (Al.new s hp) (.tup (.of upd_same) hl (rs.mono (Sub.new ?_)))⟩
    cases q : G p with
    | none => rfl
    | some u => rw [s p u q] at hp; cases hp
  · cases hz
theorem px_lst (h : AX X cs W es fs) : PX X cs W (.List es pos) (eArgs dLst fs) := by
  obtain ⟨t, p, r⟩ := h
  refine ⟨_, pe_lst p, args_run (r := fun xs H1 Q => xs.length ≤ sizeLine ∧ ∀ p, H1 p = none → Q (.ref p) (upd H1 p (.lst xs))) ?_ r⟩
  intro G H vs ds z Q s rs hz k
  unfold dLst at hz
  split at hz
  · rename_i hl
    cases hz
    rw [← rs.length] at hl
    refine ⟨hl, fun p hp => k _ _ _ (Al.new s hp) (.lst upd_same hl (rs.mono (Sub.new ?_)))⟩
    cases q : G p with
    | none => rfl
    | some u => rw [s p u q] at hp; cases hp
  · cases hz
/-- a built-in function, a built-in class, called -/
theorem px_blt {xs : List Str} {sc : Scope} {x : Str} {p : Pos} {id : String} {r : List V → Hp → VK → Prop} {g : List D → Option D} (i : Nat) (h : glB xs sc = true) (hc : CallR X (.builtin id) r) (hs : SndL (Cx.C X) r g) (hm : X.mg x = none) (hv : bootBuiltins x = some (.builtin id)) (ha : AX X cs W (e :: es) fs)
    (esc : X.env.scope = sc := by rfl) (hi : xs[i]? = some x := by rfl) (he : starEach (e :: es) X.env = (false, eval e X.env) :: starEach es X.env := by rfl) (hpl : (backTo pos (starEach es X.env)).any (·.1) = false := by rfl) : PX X cs W (.Call (.Name x p) (e :: es) [] pos) (eArgs g fs) := by
  obtain ⟨h1, h2, h3⟩ := gl_of h hi esc
  obtain ⟨t, pt, rt⟩ := ha
  exact ⟨_, pe_callB hc h1 hm hv pt h3 h2 he hpl, args_run hs rt⟩
theorem px_bty {xs : List Str} {sc : Scope} {x : Str} {p : Pos} {id : String} {r : List V → Hp → VK → Prop} {g : List D → Option D} (i : Nat) (h : glB xs sc = true) (hc : CallR X (.type id) r) (hs : SndL (Cx.C X) r g) (hm : X.mg x = none) (hv : bootBuiltins x = some (.type id)) (ha : AX X cs W (e :: es) fs)
    (esc : X.env.scope = sc := by rfl) (hi : xs[i]? = some x := by rfl) (he : starEach (e :: es) X.env = (false, eval e X.env) :: starEach es X.env := by rfl) (hpl : (backTo pos (starEach es X.env)).any (·.1) = false := by rfl) : PX X cs W (.Call (.Name x p) (e :: es) [] pos) (eArgs g fs) := by
  obtain ⟨h1, h2, h3⟩ := gl_of h hi esc
  obtain ⟨t, pt, rt⟩ := ha
  exact ⟨_, pe_callTy hc h1 hm hv pt h3 h2 he hpl, args_run hs rt⟩
end
end G

set_option Elab.async false
set_option linter.all false
set_option maxRecDepth 100000
/-! Operations on values. -/
namespace G
open PySem PySem.Spec PyProof.Rows L2

theorem free_of {G H : Hp} {p : Addr} (s : Sub G H) (h : H p = none) : G p = none := by
  cases q : G p with
  | none => rfl
  | some u => rw [s p u q] at h; cases h
section
variable {X : Cx}
/-! ### numbers -/
theorem op_subB : OpR X (binaryOp .Sub) (fun x y H Q => ∃ p q, x = .bl p ∧ y = .bl q ∧ Q (.int (b2i p - b2i q)) H) := by
  intro pins s σ H x y v u Q I rx ry h
  obtain ⟨p, q, rfl, rfl, k⟩ := h
  cases rx
  cases ry
  exact sub_bool ⟨.int _, H, I.tok _, ⟨_, rfl⟩, k⟩
theorem op_addB : OpR X (binaryOp .Add) (fun x y H Q => ∃ p q, x = .bl p ∧ y = .bl q ∧ Q (.int (b2i p + b2i q)) H) := by
  intro pins s σ H x y v u Q I rx ry h
  obtain ⟨p, q, rfl, rfl, k⟩ := h
  cases rx
  cases ry
  exact add_bool ⟨.int _, H, I.tok _, ⟨_, rfl⟩, k⟩
def rAddG (K : PySem.W.Frag) : R2 := fun x y H Q => rI0 (fun i j => .int (i + j)) x y H Q ∨ (∃ i j, x = .str i ∧ y = .str j ∧ i.length + j.length ≤ sizeLine ∧ Q (.str (i ++ j)) H) ∨ rCatA K x y H Q ∨ rCat x y H Q ∨ ∃ p q, x = .bl p ∧ y = .bl q ∧ Q (.int (b2i p + b2i q)) H
theorem op_addG : OpR X (binaryOp .Add) (rAddG X.K) := op_add.or (op_add_str.or (op_catA.or (op_cat.or op_addB)))
def dAdd : D → D → Option D
  | .int i, .int j => some (.int (i + j))
  | .str a, .str b => if a.length + b.length ≤ sizeLine then some (.str (a ++ b)) else none
  | .tup xs, .tup ys => if xs.length + ys.length ≤ sizeLine then some (.tup (xs ++ ys)) else none
  | .lst xs, .lst ys => if xs.length + ys.length ≤ sizeLine then some (.lst (xs ++ ys)) else none
  | .bl p, .bl q => some (.int (b2i p + b2i q))
  | _, _ => none
theorem sd_add {C : KM} : Snd2 C (rAddG C.K) dAdd := by
  intro G H v w d e z Q s rd re hz k
  have al : Al G H G H := Al.rfl s
  cases rd with
  | int i =>
    cases re with
    | int j => cases hz; exact .inl ⟨i, j, rfl, rfl, k _ _ _ al (.int _)⟩
    | _ => cases hz
  | bl i =>
    cases re with
    | bl j => cases hz; exact .inr (.inr (.inr (.inr ⟨i, j, rfl, rfl, k _ _ _ al (.int _)⟩)))
    | _ => cases hz
  | str i =>
    cases re with
    | str j =>
      have hz' : (if i.length + j.length ≤ sizeLine then some (D.str (i ++ j)) else none) = some z := hz
      split at hz'
      · rename_i hl
        cases hz'
        exact .inr (.inl ⟨i, j, rfl, rfl, hl, k _ _ _ al (.str _)⟩)
      · cases hz'
    | _ => cases hz
  | @tup a xs ds h zx r =>
    cases re with
    | @tup b ys es h' zy r' =>
      have hz' : (if ds.length + es.length ≤ sizeLine then some (D.tup (ds ++ es)) else none) = some z := hz
      split at hz'
      · rename_i hl
        cases hz'
        have l1 := r.length
        have l2 := r'.length
        refine .inr (.inr (.inl ⟨a, b, xs, ys, rfl, rfl, s.sqT h, s.sqT h', by omega, fun e0 => ?_, fun e1 e2 => ?_, fun e1 e2 p hp => ?_⟩))
        · subst e0
          cases r
          exact k _ _ _ al (.tup h' zy r')
        · subst e2
          cases r'
          rw [List.append_nil] at k
          exact k _ _ _ al (.tup h zx r)
        · exact k _ _ _ (Al.new s hp) (.tup (.of upd_same) (by rw [List.length_append]; omega) ((r.append r').mono (Sub.new (free_of s hp))))
      · cases hz'
    | _ => cases hz
  | @lst a xs ds h zx r =>
    cases re with
    | @lst b ys es h' zy r' =>
      have hz' : (if ds.length + es.length ≤ sizeLine then some (D.lst (ds ++ es)) else none) = some z := hz
      split at hz'
      · rename_i hl
        cases hz'
        have l1 := r.length
        have l2 := r'.length
        exact .inr (.inr (.inr (.inl ⟨a, b, xs, ys, rfl, rfl, s _ _ h, s _ _ h', by omega, fun p hp => k _ _ _ (Al.new s hp) (.lst upd_same (by rw [List.length_append]; omega) ((r.append r').mono (Sub.new (free_of s hp))))⟩)))
      · cases hz'
    | _ => cases hz
  | _ => cases hz
def rSubG : R2 := fun x y H Q => rI0 (fun i j => .int (i - j)) x y H Q ∨ ∃ p q, x = .bl p ∧ y = .bl q ∧ Q (.int (b2i p - b2i q)) H
theorem op_subG : OpR X (binaryOp .Sub) rSubG := op_sub.or op_subB
def dSub : D → D → Option D
  | .int i, .int j => some (.int (i - j))
  | .bl p, .bl q => some (.int (b2i p - b2i q))
  | _, _ => none
theorem sd_sub {C : KM} : Snd2 C rSubG dSub := by
  intro G H v w d e z Q s rd re hz k
  have al : Al G H G H := Al.rfl s
  cases rd with
  | int i =>
    cases re with
    | int j => cases hz; exact .inl ⟨i, j, rfl, rfl, k _ _ _ al (.int _)⟩
    | _ => cases hz
  | bl i =>
    cases re with
    | bl j => cases hz; exact .inr ⟨i, j, rfl, rfl, k _ _ _ al (.int _)⟩
    | _ => cases hz
  | _ => cases hz
/-- a rule for two ints under a condition -/
theorem sd_int2 {C : KM} {P : Int → Int → Prop} {g : Int → Int → Int} {f : D → D → Option D} (hf : ∀ i j z, f (.int i) (.int j) = some z → P i j ∧ z = .int (g i j)) (h0 : ∀ d e z, f d e = some z → ∃ i j, d = .int i ∧ e = .int j) : Snd2 C (rI P fun i j => .int (g i j)) f := by
  intro G H v w d e z Q s rd re hz k
  obtain ⟨i, j, rfl, rfl⟩ := h0 d e z hz
  obtain ⟨p, rfl⟩ := hf i j z hz
  rw [rd.int_, re.int_]
  exact ⟨i, j, rfl, rfl, p, k _ _ _ (Al.rfl s) (.int _)⟩
/-- a product that fits -/
def mulOk (i j : Int) : Bool := decide ((-(2 ^ 64) < i ∧ i < 2 ^ 64) ∨ (-(2 ^ 64) < j ∧ j < 2 ^ 64)) || decide (i.natAbs.log2 + j.natAbs.log2 < 1000000)
def CMulG (i j : Int) : Prop := mulOk i j = true
theorem op_mulI : OpR X (binaryOp .Mult) (rI CMulG fun i j => .int (i * j)) := opI fun i j _ _ _ _ _ hc q => mul_int q (by
  have hc' : mulOk i j = true := hc
  unfold mulOk at hc'
  rcases Bool.or_eq_true_iff.mp hc' with h | h
  · have h2 := of_decide_eq_true h
    exact CMul.ok h2
  · have h2 := of_decide_eq_true h
    exact CMulW.ok h2)
def dMul : D → D → Option D
  | .int i, .int j => if mulOk i j = true then some (.int (i * j)) else none
  | .lst xs, .int k => if 0 ≤ k ∧ k < 2 ^ 62 ∧ xs.length * k.toNat ≤ sizeLine then some (.lst (List.replicate k.toNat xs).flatten) else none
  | .tup xs, .int k => if xs ≠ [] ∧ 2 ≤ k ∧ k ≤ 1000 ∧ xs.length ≤ 1000 then some (.tup (List.replicate k.toNat xs).flatten) else none
  | _, _ => none
theorem rep_len {α : Type} (xs : List α) : ∀ n : Nat, (List.replicate n xs).flatten.length = xs.length * n
  | 0 => by simp
  | n + 1 => by rw [List.replicate_succ, List.flatten_cons, List.length_append, rep_len xs n, Nat.mul_succ]; omega
theorem sq_of {K : PySem.W.Frag} {G H : Hp} {a : Addr} {xs : List V} (s : Sub G H) (h : G a = some (.lst xs)) : SqL K H a xs := .inl (.inl (s _ _ h))
def rMulG (K : PySem.W.Frag) : R2 := fun x y H Q => rI CMulG (fun i j => .int (i * j)) x y H Q ∨ rRep x y H Q ∨ rRepT K x y H Q
theorem op_mulG : OpR X (binaryOp .Mult) (rMulG X.K) := op_mulI.or (op_rep.or op_repT)
theorem sd_mul {C : KM} : Snd2 C (rMulG C.K) dMul := by
  intro G H v w d e z Q s rd re hz k
  have al : Al G H G H := Al.rfl s
  cases rd with
  | int i =>
    cases re with
    | int j =>
      have hz' : (if mulOk i j = true then some (D.int (i * j)) else none) = some z := hz
      split at hz'
      · rename_i h
        cases hz'
        exact .inl ⟨i, j, rfl, rfl, h, k _ _ _ al (.int _)⟩
      · cases hz'
    | _ => cases hz
  | @lst a xs ds h zx r =>
    cases re with
    | int n =>
      have hz' : (if 0 ≤ n ∧ n < 2 ^ 62 ∧ ds.length * n.toNat ≤ sizeLine then some (D.lst (List.replicate n.toNat ds).flatten) else none) = some z := hz
      split at hz'
      · rename_i h'
        obtain ⟨h1, h2, h3⟩ := h'
        cases hz'
        have l1 := r.length
        rw [← l1] at h3
        refine .inr (.inl ⟨a, n, xs, rfl, rfl, s _ _ h, by omega, by omega, h3, fun p hp => k _ _ _ (Al.new s hp) (.lst upd_same ?_ ((r.replicate _).mono (Sub.new (free_of s hp))))⟩)
        rw [rep_len]; exact h3
      · cases hz'
    | _ => cases hz
  | @tup a xs ds h zx r =>
    cases re with
    | int n =>
      have hz' : (if ds ≠ [] ∧ 2 ≤ n ∧ n ≤ 1000 ∧ ds.length ≤ 1000 then some (D.tup (List.replicate n.toNat ds).flatten) else none) = some z := hz
      split at hz'
      · rename_i h'
        obtain ⟨h1, h2, h3, h4⟩ := h'
        cases hz'
        have l1 := r.length
        refine .inr (.inr ⟨a, n, xs, rfl, rfl, s.sqT h, fun e => h1 (by subst e; cases r; rfl), h2, h3, by omega, fun p hp => k _ _ _ (Al.new s hp) (.tup (.of upd_same) ?_ ((r.replicate _).mono (Sub.new (free_of s hp))))⟩)
        rw [rep_len, sizeLine_eq]
        have : xs.length * n.toNat ≤ 1000 * 1000 := Nat.mul_le_mul (by omega) (by omega)
        omega
      · cases hz'
    | _ => cases hz
  | _ => cases hz
/-- // and % -/
def divOk (j : Int) : Bool := decide (j ≠ 0 ∧ j.natAbs < 1073741824) || decide (0 < j ∧ j.natAbs.log2 < 9000)
theorem op_divI : OpR X (binaryOp .FloorDiv) (rI (fun _ j => divOk j = true) fun i j => .int (i.fdiv j)) := by
  intro pins s σ H x y v u Q I rx ry h
  obtain ⟨i, j, ex, ey, hc, q⟩ := h
  rcases Bool.or_eq_true_iff.mp (show (decide (j ≠ 0 ∧ j.natAbs < 1073741824) || decide (0 < j ∧ j.natAbs.log2 < 9000)) = true from hc) with h | h
  · have h2 := of_decide_eq_true h
    exact op_fdivN pins s σ H x y v u Q I rx ry ⟨i, j, ex, ey, h2, q⟩
  · have h2 := of_decide_eq_true h
    refine op_fdivW pins s σ H x y v u Q I rx ry ⟨i, j, ex, ey, h2, ?_⟩
    have e : i.fdiv j = i / j := Int.fdiv_eq_ediv_of_nonneg i (by omega)
    show Q (.int (i / j)) H
    rw [← e]
    exact q
def dDiv : D → D → Option D
  | .int i, .int j => if divOk j = true then some (.int (i.fdiv j)) else none
  | _, _ => none
def dMod : D → D → Option D
  | .int i, .int j => if j ≠ 0 then some (.int (i.fmod j)) else none
  | _, _ => none
def dPow : D → D → Option D
  | .int i, .int j => if 0 ≤ j ∧ j ≤ 1000000 ∧ i.natAbs < 2 ^ 64 then some (.int (i ^ j.toNat)) else none
  | _, _ => none
theorem sd_div {C : KM} : Snd2 C (rI (fun _ j => divOk j = true) fun i j => .int (i.fdiv j)) dDiv := by
  refine sd_int2 (fun i j z h => ?_) (fun d e z h => ?_)
  · unfold dDiv at h
    simp only at h
    split at h
    · exact ⟨by assumption, (Option.some.inj h).symm⟩
    · cases h
  · cases d <;> cases e <;> first | exact ⟨_, _, rfl, rfl⟩ | cases h
theorem sd_mod {C : KM} : Snd2 C (rI (fun _ j => j ≠ 0) fun i j => .int (i.fmod j)) dMod := by
  refine sd_int2 (fun i j z h => ?_) (fun d e z h => ?_)
  · unfold dMod at h
    simp only at h
    split at h
    · exact ⟨by assumption, (Option.some.inj h).symm⟩
    · cases h
  · cases d <;> cases e <;> first | exact ⟨_, _, rfl, rfl⟩ | cases h
theorem sd_pow {C : KM} : Snd2 C (rI CPow fun i j => .int (i ^ j.toNat)) dPow := by
  refine sd_int2 (fun i j z h => ?_) (fun d e z h => ?_)
  · unfold dPow at h
    simp only at h
    split at h
    · exact ⟨by assumption, (Option.some.inj h).symm⟩
    · cases h
  · cases d <;> cases e <;> first | exact ⟨_, _, rfl, rfl⟩ | cases h
def dNeg : D → Option D
  | .int i => some (.int (-i))
  | _ => none
theorem sd_neg {C : KM} : Snd1 C (rU fun i => .int (-i)) dNeg := by
  intro G H v d z Q s rd hz k
  cases rd with
  | int i => cases hz; exact ⟨i, rfl, k _ _ _ (Al.rfl s) (.int _)⟩
  | _ => cases hz

/-! ### comparisons -/
mutual
/-- the library's data -/
def D.p : D → Option PyData
  | .non => some .none
  | .bl b => some (.bool b)
  | .int i => some (.int i)
  | .str x => some (.str x)
  | .lst xs => (D.ps xs).map .list
  | .tup xs => (D.ps xs).map .tuple
  | .fn _ => none
  | .cel => none
  | .lsf _ => none
  | .dct _ => none
def D.ps : List D → Option (List PyData)
  | [] => some []
  | x :: r => match x.p, D.ps r with
    | some y, some z => some (y :: z)
    | _, _ => none
end
mutual
theorem Rep.dp {C : KM} {G H : Hp} (s : Sub G H) : ∀ {d : D} {v : V} {p : PyData}, Rep C G v d → d.p = some p → Dp C.K H v p
  | .non, _, _, h, e => by cases h; cases e; exact .non
  | .bl _, _, _, h, e => by cases h; cases e; exact .bl _
  | .int _, _, _, h, e => by cases h; cases e; exact .int _
  | .str _, _, _, h, e => by cases h; cases e; exact .str _
  | .lst ds, _, _, h, e => by
    cases h with
    | lst h z r =>
      have e' : (D.ps ds).map PyData.list = some _ := e
      cases q : D.ps ds with
      | none => rw [q] at e'; cases e'
      | some y =>
        rw [q] at e'
        cases e'
        exact .lst (sq_of s h) (Reps.dp s r q)
  | .tup ds, _, _, h, e => by
    cases h with
    | tup h z r =>
      have e' : (D.ps ds).map PyData.tuple = some _ := e
      cases q : D.ps ds with
      | none => rw [q] at e'; cases e'
      | some y =>
        rw [q] at e'
        cases e'
        exact .tup (s.sqT h) (Reps.dp s r q)
  | .fn _, _, _, _, e => by cases e
  | .cel, _, _, _, e => by cases e
theorem Reps.dp {C : KM} {G H : Hp} (s : Sub G H) : ∀ {ds : List D} {vs : List V} {ps : List PyData}, Reps C G vs ds → D.ps ds = some ps → DpAll C.K H vs ps
  | [], _, _, h, e => by cases h; cases e; exact .nil
  | d :: ds, _, _, h, e => by
    cases h with
    | cons h t =>
      unfold D.ps at e
      split at e
      · rename_i y z h1 h2
        cases e
        exact .cons (Rep.dp s h h1) (Reps.dp s t h2)
      · cases e
end
/-- what == may be asked of -/
def D.sh (d : D) : Option PyData := match d.p with
  | some p => if SeqAt.shaped p = true then some p else none
  | none => none
theorem sh_p {d : D} {p : PyData} (h : d.sh = some p) : d.p = some p ∧ SeqAt.shaped p = true := by
  unfold D.sh at h
  split at h
  · split at h
    · cases h
      exact ⟨by assumption, by assumption⟩
    · cases h
  · cases h
def dEq (d e : D) : Option D := match d.sh, e.sh with
  | some p, some q => some (.bl (PyData.eqv p q))
  | _, _ => none
def dNe (d e : D) : Option D := match d.sh, e.sh with
  | some p, some q => some (.bl (!PyData.eqv p q))
  | _, _ => none
theorem sd_eq {C : KM} : Snd2 C (rEqD C.K) dEq := by
  intro G H v w d e z Q s rd re hz k
  unfold dEq at hz
  split at hz
  · rename_i p q h1 h2
    cases hz
    obtain ⟨a1, a2⟩ := sh_p h1
    obtain ⟨b1, b2⟩ := sh_p h2
    exact ⟨p, q, rd.dp s a1, re.dp s b1, a2, b2, k _ _ _ (Al.rfl s) (.bl _)⟩
  · cases hz
theorem sd_ne {C : KM} : Snd2 C (rNeD C.K) dNe := by
  intro G H v w d e z Q s rd re hz k
  unfold dNe at hz
  split at hz
  · rename_i p q h1 h2
    cases hz
    obtain ⟨a1, a2⟩ := sh_p h1
    obtain ⟨b1, b2⟩ := sh_p h2
    exact ⟨p, q, rd.dp s a1, re.dp s b1, a2, b2, k _ _ _ (Al.rfl s) (.bl _)⟩
  · cases hz
/-- < .. >= of ints -/
def dCmp (p : Int → Int → Bool) : D → D → Option D
  | .int i, .int j => some (.bl (p i j))
  | _, _ => none
theorem sd_cmp {C : KM} (p : Int → Int → Bool) : Snd2 C (rI0 fun i j => .bl (p i j)) (dCmp p) := by
  intro G H v w d e z Q s rd re hz k
  cases rd with
  | int i =>
    cases re with
    | int j => cases hz; exact ⟨i, j, rfl, rfl, k _ _ _ (Al.rfl s) (.bl _)⟩
    | _ => cases hz
  | _ => cases hz
abbrev dLt := dCmp fun i j => decide (i < j)
abbrev dLe := dCmp fun i j => decide (i ≤ j)
abbrev dGt := dCmp fun i j => decide (j < i)
abbrev dGe := dCmp fun i j => decide (j ≤ i)
/-- is None, is not None -/
def D.isN : D → Bool
  | .non => true
  | _ => false
def dIsN (d e : D) : Option D := match e with
  | .non => some (.bl d.isN)
  | _ => none
def dNotN (d e : D) : Option D := match e with
  | .non => some (.bl (!d.isN))
  | _ => none
theorem isN_of {C : KM} {G : Hp} {v : V} {d : D} (r : Rep C G v d) : decide (v = .non) = d.isN := by
  cases r <;> first | rfl | simp [D.isN]
theorem sd_isN {C : KM} : Snd2 C (fun x y H Q => y = .non ∧ Q (.bl (decide (x = .non))) H) dIsN := by
  intro G H v w d e z Q s rd re hz k
  cases re with
  | non => cases hz; exact ⟨rfl, by rw [isN_of rd]; exact k _ _ _ (Al.rfl s) (.bl _)⟩
  | _ => cases hz
theorem sd_notN {C : KM} : Snd2 C (fun x y H Q => y = .non ∧ Q (.bl (!decide (x = .non))) H) dNotN := by
  intro G H v w d e z Q s rd re hz k
  cases re with
  | non => cases hz; exact ⟨rfl, by rw [isN_of rd]; exact k _ _ _ (Al.rfl s) (.bl _)⟩
  | _ => cases hz

/-! ### places -/
theorem Reps.at {C : KM} {G : Hp} {vs : List V} {ds : List D} {i : Int} {d : D} (r : Reps C G vs ds) (h : atI ds i = some d) : ∃ v, atI vs i = some v ∧ Rep C G v d := by
  unfold atI at h ⊢
  rw [r.length]
  cases q : ixN ds.length i with
  | none => rw [q] at h; cases h
  | some j =>
    rw [q] at h
    exact r.get h
def dIx : D → D → Option D
  | .lst xs, .int i => atI xs i
  | .tup xs, .int i => atI xs i
  | .str z, .int i => if z.length ≤ sizeLine then (atI z.cps.toList i).map fun c => .str ⟨#[c]⟩ else none
  | _, _ => none
theorem sd_ix {C : KM} : Snd2 C (rIx C.K) dIx := by
  intro G H v w d e z Q s rd re hz k
  have al : Al G H G H := Al.rfl s
  cases rd with
  | @lst a xs ds h zx r =>
    cases re with
    | int i =>
      obtain ⟨y, e1, ry⟩ := r.at (show atI ds i = some z from hz)
      exact .inl ⟨a, xs, i, y, rfl, rfl, sq_of s h, e1, k _ _ _ al ry⟩
    | _ => cases hz
  | @tup a xs ds h zx r =>
    cases re with
    | int i =>
      obtain ⟨y, e1, ry⟩ := r.at (show atI ds i = some z from hz)
      exact .inr (.inl ⟨a, xs, i, y, rfl, rfl, s.sqT h, e1, k _ _ _ al ry⟩)
    | _ => cases hz
  | str x =>
    cases re with
    | int i =>
      have hz' : (if x.length ≤ sizeLine then (atI x.cps.toList i).map fun c => D.str ⟨#[c]⟩ else none) = some z := hz
      split at hz'
      · rename_i hl
        cases q : atI x.cps.toList i with
        | none => rw [q] at hz'; cases hz'
        | some c =>
          rw [q] at hz'
          cases hz'
          exact .inr (.inr ⟨x, i, c, rfl, rfl, hl, q, k _ _ _ al (.str _)⟩)
      · cases hz'
    | _ => cases hz
  | _ => cases hz
theorem px_ix {cs : Option Nat} {W : WX} {a b : Expr} {fa fb : M D} {pos : Pos} (ha : PX X cs W a fa) (hb : PX X cs W b fb) (hs : PlainIx b := by exact fun _ _ => rfl) : PX X cs W (.Subscript a b pos) (eBin dIx fa fb) := by
  obtain ⟨ta, pa, ra⟩ := ha
  obtain ⟨tb, pb, rb⟩ := hb
  exact ⟨_, pe_ix ix_seq pa pb hs, bin_run sd_ix ra rb⟩
/-- x[lo:hi] -/
def cutD {α : Type} (xs : List α) (lo hi : Option Int) : List α := (xs.drop (HT.sIx xs.length 0 lo)).take (HT.sIx xs.length xs.length hi - HT.sIx xs.length 0 lo)
def dSl : D → Option Int → Option Int → Option D
  | .lst xs, lo, hi => some (.lst (cutD xs lo hi))
  | .lsf xs, lo, hi => some (.lst (cutD xs lo hi))
  | .tup xs, lo, hi => some (.tup (cutD xs lo hi))
  | .str z, lo, hi => if z.length ≤ sizeLine then some (.str (cutS z lo hi)) else none
  | _, _, _ => none
def dInt : D → Option Int
  | .int i => some i
  | _ => none
def pNone : M (Option Int) := fun _ κ => .ok none κ
def pSome (fa : M D) : M (Option Int) := fun ρ κ => (fa ρ κ).bind fun x κ => (ofO (dInt x) κ).bind fun i κ => .ok (some i) κ
def eSl (fa : M D) (fl fh : M (Option Int)) : M D := fun ρ κ => (fa ρ κ).bind fun x κ => (fl ρ κ).bind fun l κ => (fh ρ κ).bind fun h κ => ofO (dSl x l h) κ
structure OXt (C : KM) (cs : Option Nat) (W : WX) (t : TO) (f : M (Option Int)) : Prop where
  run : ∀ (σ : St) (ρ : Sd) (κ : Kp) (G H : Hp) (A : Addr → Prop) (Q : Option Int → Hp → Prop), EV C G H cs σ ρ κ A → Res C cs W σ ρ G H A (fun b G' H' => Q b H') (f ρ κ) → t σ H Q
def OX (X : Cx) (cs : Option Nat) (W : WX) (e : Option Expr) (f : M (Option Int)) : Prop := ∃ t, PO X e t ∧ OXt (Cx.C X) cs W t f
section
variable {cs : Option Nat} {W : WX} {a : Expr} {fa : M D} {pos : Pos}
theorem ox_none : OX X cs W none pNone := ⟨_, po_none, ⟨fun σ ρ κ G H A Q e k => k G H Go.rfl e⟩⟩
theorem ox_some (ha : PX X cs W a fa) : OX X cs W (some a) (pSome fa) := by
  obtain ⟨ta, pa, ra⟩ := ha
  refine ⟨_, po_some pa, ⟨fun σ ρ κ G H A Q e k => ra.run σ ρ κ G H A _ e (Res.mono (Res.bind k) ?_)⟩⟩
  intro x G1 H1 _ ⟨κ1, e1, k1⟩ v rv
  cases x with
  | int i => exact ⟨i, rv.int_, k1 G1 H1 Go.rfl e1⟩
  | _ => exact (show False from k1).elim
theorem Reps.cut {C : KM} {G : Hp} {vs : List V} {ds : List D} (r : Reps C G vs ds) (lo hi : Option Int) : Reps C G (cutV vs lo hi) (cutD ds lo hi) := by
  unfold cutV cutD
  rw [r.length]
  exact (r.drop _).take _
def rSlG (K : PySem.W.Frag) : V → Option Int → Option Int → Hp → VK → Prop := fun x lo hi H Q => rSlL K x lo hi H Q ∨ rSlA K x lo hi H Q ∨ rSlS x lo hi H Q
theorem px_sl {lo hi : Option Expr} {fl fh : M (Option Int)} {p2 : Pos} (ha : PX X cs W a fa) (hl : OX X cs W lo fl) (hh : OX X cs W hi fh) : PX X cs W (.Subscript a (.Slice lo hi none p2) pos) (eSl fa fl fh) := by
  obtain ⟨ta, pa, ra⟩ := ha
  obtain ⟨tl, pl, rl⟩ := hl
  obtain ⟨th, ph, rh⟩ := hh
  refine ⟨_, pe_slice (r := rSlG X.K) (sl_list.or (sl_tupA.or sl_str)) pa pl ph, ⟨fun σ ρ κ G H A Q e k => ra.run σ ρ κ G H A _ e (Res.mono (Res.bind k) ?_)⟩⟩
  intro x G1 H1 _ ⟨κ1, e1, k1⟩ v rv
  refine rl.run σ ρ κ1 G1 H1 A _ e1 (Res.mono (Res.bind k1) ?_)
  intro l G2 H2 s2 ⟨κ2, e2, k2⟩
  refine rh.run σ ρ κ2 G2 H2 A _ e2 (Res.mono (Res.bind k2) ?_)
  intro u G3 H3 s3 ⟨κ3, e3, k3⟩
  have rv' := (rv.mono s2).mono s3
  have s := e3.gh
  refine res_ofO e3 k3 fun z hz q => ?_
  cases rv' with
  | @lst b xs ds h zx r =>
    cases hz
    exact .inl ⟨b, xs, rfl, sq_of s h, fun p hp => q _ _ (Al.new s hp) _ (.lst upd_same (Nat.le_trans (cutV_length _ _ _) zx) ((r.cut l u).mono (Sub.new (free_of s hp))))⟩
  | @lsf b xs ds h zx r =>
    cases hz
    exact .inl ⟨b, xs, rfl, s.sqL h, fun p hp => q _ _ (Al.new s hp) _ (.lst upd_same (Nat.le_trans (cutV_length _ _ _) zx) ((r.cut l u).mono (Sub.new (free_of s hp))))⟩
  | @tup b xs ds h zx r =>
    cases hz
    refine .inr (.inl ⟨b, xs, rfl, s.sqT h, fun hw => ?_, fun hw p hp => q _ _ (Al.new s hp) _ (.tup (.of upd_same) (Nat.le_trans (cutV_length _ _ _) zx) ((r.cut l u).mono (Sub.new (free_of s hp))))⟩)
    have ec : cutD ds l u = ds := by
      unfold cutD
      rw [← r.length, hw.1, hw.2, List.drop_zero, Nat.sub_zero, r.length]
      exact List.take_length
    rw [ec] at q
    exact q _ _ (Al.rfl s) _ (.tup h zx r)
  | str y =>
    have hz' : (if y.length ≤ sizeLine then some (D.str (cutS y l u)) else none) = some z := hz
    split at hz'
    · rename_i hl
      cases hz'
      exact .inr (.inr ⟨y, rfl, hl, q _ _ (Al.rfl s) _ (.str _)⟩)
    · cases hz'
  | _ => cases hz
end
end
end G

set_option Elab.async false
set_option linter.all false
set_option maxRecDepth 100000
/-! Built-ins over values. -/
namespace G
open PySem PySem.Spec PyProof.Rows L2
section
variable {X : Cx}
/-! ### in -/
def rInG (K : PySem.W.Frag) (neg : Bool) : R2 := fun x y H Q => (∃ d ds, Dp K H x d ∧ (Dp K H y (.list ds) ∨ Dp K H y (.tuple ds)) ∧ SeqAt.shaped d = true ∧ SeqAt.shaped (.list ds) = true ∧ Q (.bl (if neg then !ds.any fun z => PyData.eqv z d else ds.any fun z => PyData.eqv z d)) H) ∨
  ∃ i j, x = .str i ∧ y = .str j ∧ Q (.bl (if neg then (!(!(Builtin.Str.occurrences j i 0 j.length 1).isEmpty)) else !(Builtin.Str.occurrences j i 0 j.length 1).isEmpty)) H
theorem op_inG (hu : X.A.units + 65 < cLine) : OpR X (compareOp .In) (rInG X.K false) := by
  intro pins s σ H x y v u Q I rx ry h
  rcases h with ⟨d, ds, hd, he, sd, se, q⟩ | ⟨i, j, ex, ey, q⟩
  · obtain ⟨as, r1⟩ := Dp.reads I d x v hd rx
    rcases he with he | he
    · obtain ⟨bs, r2⟩ := Dp.reads I (.list ds) y u he ry
      exact SeqAt.in_list_reads r2 r1 (SeqAt.canLay_of_shaped se) (SeqAt.canLay_of_shaped sd) (room_in_shaped sd hu) ⟨.bl _, H, I, rfl, q⟩
    · obtain ⟨bs, r2⟩ := Dp.reads I (.tuple ds) y u he ry
      exact SeqAt.in_tuple_reads r2 r1 (SeqAt.canLay_of_shaped se) (SeqAt.canLay_of_shaped sd) (room_in_shaped sd hu) ⟨.bl _, H, I, rfl, q⟩
  · exact op_in_str pins s σ H x y v u Q I rx ry ⟨i, j, ex, ey, q⟩
theorem op_ninG (hu : X.A.units + 65 < cLine) : OpR X (compareOp .NotIn) (rInG X.K true) := by
  intro pins s σ H x y v u Q I rx ry h
  rcases h with ⟨d, ds, hd, he, sd, se, q⟩ | ⟨i, j, ex, ey, q⟩
  · obtain ⟨as, r1⟩ := Dp.reads I d x v hd rx
    rcases he with he | he
    · obtain ⟨bs, r2⟩ := Dp.reads I (.list ds) y u he ry
      exact SeqAt.notIn_list_reads r2 r1 (SeqAt.canLay_of_shaped se) (SeqAt.canLay_of_shaped sd) (room_in_shaped sd hu) ⟨.bl _, H, I, rfl, q⟩
    · obtain ⟨bs, r2⟩ := Dp.reads I (.tuple ds) y u he ry
      exact SeqAt.notIn_tuple_reads r2 r1 (SeqAt.canLay_of_shaped se) (SeqAt.canLay_of_shaped sd) (room_in_shaped sd hu) ⟨.bl _, H, I, rfl, q⟩
  · exact op_notin_str pins s σ H x y v u Q I rx ry ⟨i, j, ex, ey, q⟩
/-- the items as the library's data -/
def D.its : D → Option (List PyData)
  | .lst xs => D.ps xs
  | .tup xs => D.ps xs
  | _ => none
def dInB (neg : Bool) (d e : D) : Option D := match d, e with
  | .str i, .str j => some (.bl (if neg then (!(!(Builtin.Str.occurrences j i 0 j.length 1).isEmpty)) else !(Builtin.Str.occurrences j i 0 j.length 1).isEmpty))
  | d, e => match d.sh, e.its with
    | some p, some qs => if SeqAt.shaped (.list qs) = true then some (.bl (if neg then !qs.any fun z => PyData.eqv z p else qs.any fun z => PyData.eqv z p)) else none
    | _, _ => none
abbrev dIn := dInB false
abbrev dNin := dInB true
theorem its_dp {C : KM} {G H : Hp} (s : Sub G H) {e : D} {w : V} {qs : List PyData} (r : Rep C G w e) (h : e.its = some qs) : Dp C.K H w (.list qs) ∨ Dp C.K H w (.tuple qs) := by
  cases r with
  | lst h' z r => exact .inl (.lst (sq_of s h') (r.dp s h))
  | tup h' z r => exact .inr (.tup (s.sqT h') (r.dp s h))
  | _ => cases h
theorem sd_in {C : KM} (neg : Bool) : Snd2 C (rInG C.K neg) (dInB neg) := by
  intro G H v w d e z Q s rd re hz k
  have al : Al G H G H := Al.rfl s
  have gen : ∀ {p : PyData} {qs : List PyData}, d.sh = some p → e.its = some qs → SeqAt.shaped (.list qs) = true → Q (.bl (if neg then !qs.any fun z => PyData.eqv z p else qs.any fun z => PyData.eqv z p)) H → rInG C.K neg v w H Q := fun {p qs} h1 h2 h3 q => by
    obtain ⟨a1, a2⟩ := sh_p h1
    exact .inl ⟨p, qs, rd.dp s a1, its_dp s re h2, a2, h3, q⟩
  unfold dInB at hz
  split at hz
  · rename_i i j
    cases hz
    cases rd
    cases re
    exact .inr ⟨i, j, rfl, rfl, k _ _ _ al (.bl _)⟩
  · split at hz
    · rename_i p qs h1 h2
      split at hz
      · rename_i h3
        cases hz
        exact gen h1 h2 h3 (k _ _ _ al (.bl _))
      · cases hz
    · cases hz

/-! ### len, int, abs, str, tuple, list, all, any, sum -/
section
variable {prog : Program} {w : World} {A : Around} {E : Value → Shared → Prop} {s : Shared}
theorem meets_len_raw (d : Addr) (hd : (d == sysModules) = false) :
    MeetsIn prog w (Builtin.«dict.__len__» ⟨[.ref d], []⟩) (fun _ R s => ∃ o es ep, s.heap.get? d = some o ∧ o.data = .dict es ep ∧ R (.ok (.ret (.int es.size s.toks))) { s with toks := s.toks + 1 }) :=
  .of_wp fun A R s ⟨o, es, ep, ho, hdat, h⟩ => by
    show wpAny _ _ (dictSize d >>= _) _ _ s
    unfold dictSize
    refine wpAny_bind (wpAny_bind (wpAny_dictEntries ho hdat (wpAny_pure ?_)))
    show wpAny _ _ (Builtin.Dict.pendingCount d >>= _) _ _ s
    refine wpAny_bind (wpAny_pendingCount_other hd ?_)
    refine wpAny_ret_mkInt ?_
    rw [Nat.add_zero]; exact h
theorem len_raw {d : Addr} {o : Obj} {es : Array DictEntry} {ep : Nat} {Q : Value → Shared → Prop} (hd : (d == sysModules) = false) (ho : s.heap.get? d = some o) (hx : o.ExactDict) (hdat : o.data = .dict es ep) (hfit : (es.size : Int) < 2 ^ 63)
    (h : Q (.int es.size (s.toks + 1)) { s with toks := s.toks + 1 + 1 }) : wpAny (model prog w) A (call (.builtin "len") [.ref d]) Q E s := by
  refine Calls.call_function_entry kind_len plain_len entry_len (args_len1 _) ?_
  unfold Builtin.«len»
  refine wpAny_bind (m := oneArg "len" _) (wpAny_pure ?_)
  refine wpAny_bind (m := callSpecial? (.ref d) (Str.ofString "__len__")) (wpAny_callSpecial?_slot (name := Str.ofString "__len__") ⟨o, ho, hx.1⟩ F.slot_dict_len
    (call_meetsIn F.slot_dict_len ⟨o, ho, hx.1⟩ F.entry_dict_len (F.args_dict_len_1 _) (meets_len_raw d hd) ⟨o, es, ep, ho, hdat, ?_⟩))
  show wpAny _ _ _ _ _ { s with toks := s.toks + 1 }
  refine wpAny_bind (wpAny_holding (wpAny_pure ?_))
  refine wpAny_bind (wpAny_letGo ?_)
  show wpAny _ _ (if ((es.size : Nat) : Int) < 0 then _ else _) _ _ _
  rw [if_neg (by omega)]
  show wpAny _ _ (if ((es.size : Nat) : Int) ≥ 2 ^ 63 then _ else _) _ _ _
  rw [if_neg (by omega)]
  exact wpAny_bind (wpAny_mkInt (wpAny_pure ⟨_, rfl, h⟩))
end
theorem dctO_ok {P : Program} {w : World} {H : Hp} {h : Heap} {a : Addr} {as : List Addr} (ok : HOk P w H h) (e : H a = some (dctO a as)) : (a == sysModules) = false ∧ as.length ≤ sizeLine ∧ ∃ o es ep, h.get? a = some o ∧ o.ExactDict ∧ o.data = .dict es ep ∧ es.toList.map (·.key) = as.map Value.ref :=
  (show ObjOk P w H h a (dctO a as) from ok a _ e).1
theorem dctO_size {es : Array DictEntry} {as : List Addr} (h : es.toList.map (·.key) = as.map Value.ref) : es.size = as.length := by
  have z := congrArg List.length h
  rw [List.length_map, List.length_map, Array.length_toList] at z
  exact z
theorem call_len_dc {X : Cx} : CallR X (.builtin "len") (fun xs H Q => ∃ (p : Addr) (as : List Addr), xs = [.ref p] ∧ H p = some (dctO p as) ∧ Q (.int ((as.length : Nat) : Int)) H) := by
  intro pins s σ H xs us Q I r h
  obtain ⟨p, as, rfl, hp, q⟩ := h
  obtain ⟨u, rfl, rx⟩ := vals1 r
  obtain rfl : u = .ref p := rx
  obtain ⟨hd, z, o, es, ep, ho, hx, hdat, hk⟩ := dctO_ok I.hok hp
  have hl := dctO_size hk
  refine len_raw hd ho hx hdat (by rw [hl]; rw [sizeLine_eq] at z; omega) ?_
  rw [hl]
  exact ⟨.int ((as.length : Nat) : Int), H, I.tok _, ⟨_, rfl⟩, q⟩
theorem call_list_dc {X : Cx} (hc : X.calm = true) : CallR X (.type "list") (fun xs H Q => ∃ (d : Addr) (as : List Addr), xs = [V.ref d] ∧ H d = some (dctO d as) ∧ ∀ p, H p = none → Q (.ref p) (upd H p (.lst (as.map V.ref)))) := by
  intro pins s σ H xs us Q I r h
  obtain ⟨d, as, rfl, hd, q⟩ := h
  obtain ⟨u, rfl, rx⟩ := r.one
  cases rx
  obtain ⟨hs, hn, o, es, ep, ho, hx, hdt, he⟩ := dctO_ok I.hok hd
  have l1 := dctO_size he
  refine PySem.W.kdl_call (kdl_raw hs hx hdt) (I.ok.hd hc) ho (by omega) fun h' tk acc' c' kp e it => ?_
  have eb : acc'.toList = as.map Value.ref := by
    rw [← he]
    apply List.ext_getElem?
    intro j
    rw [List.getElem?_map]
    cases hj : acc'.toList[j]? with
    | none =>
      have h1 := List.getElem?_eq_none_iff.mp hj
      have h2 : acc'.toList.length = es.size := by rw [Array.length_toList]; exact it.1
      rw [List.getElem?_eq_none (by rw [Array.length_toList]; omega)]
      rfl
    | some v =>
      obtain ⟨en, hen, hv⟩ := it.2 j v (by rw [← Array.getElem?_toList]; exact hj)
      rw [Array.getElem?_toList, hen, hv]
      rfl
  have rv : Vals (as.map V.ref) acc'.toList := by rw [eb]; exact vals_refs _
  have hz : (as.map V.ref).length ≤ sizeLine := by rw [List.length_map]; omega
  refine ⟨.ref s.heap.objs.size, _, I.laid (t' := tk) (o := .lst (as.map V.ref)) kp (Nat.le_refl _) ?_, rfl, q _ (I.hok.fresh (Nat.le_refl _))⟩
  exact ⟨hz, acc'.toList, c', rv, by rw [Array.toArray_toList]; exact e⟩
theorem call_lenG {X : Cx} : CallR X (.builtin "len") (fun xs H Q => ((∃ p ys, xs = [.ref p] ∧ (SqL X.K H p ys ∨ SqT X.K H p ys) ∧ Q (.int ys.length) H) ∨ ∃ z, xs = [.str z] ∧ z.length ≤ sizeLine ∧ Q (.int z.length) H) ∨ ∃ (p : Addr) (as : List Addr), xs = [.ref p] ∧ H p = some (dctO p as) ∧ Q (.int ((as.length : Nat) : Int)) H) := (call_len_seq.or call_len_str).or call_len_dc
def dLen : List D → Option D
  | [.lst xs] => some (.int xs.length)
  | [.tup xs] => some (.int xs.length)
  | [.str z] => if z.length ≤ sizeLine then some (.int z.length) else none
  | [.dct xs] => some (.int xs.length)
  | _ => none
theorem reps1 {C : KM} {G : Hp} {vs : List V} {d : D} (r : Reps C G vs [d]) : ∃ v, vs = [v] ∧ Rep C G v d := by
  cases r with
  | cons h t => cases t; exact ⟨_, rfl, h⟩
theorem reps2 {C : KM} {G : Hp} {vs : List V} {d e : D} (r : Reps C G vs [d, e]) : ∃ v w, vs = [v, w] ∧ Rep C G v d ∧ Rep C G w e := by
  cases r with
  | cons h t =>
    obtain ⟨w, rfl, h'⟩ := reps1 t
    exact ⟨_, _, rfl, h, h'⟩
theorem sd_len {C : KM} : SndL C (fun xs H Q => ((∃ p ys, xs = [.ref p] ∧ (SqL C.K H p ys ∨ SqT C.K H p ys) ∧ Q (.int ys.length) H) ∨ ∃ z, xs = [.str z] ∧ z.length ≤ sizeLine ∧ Q (.int z.length) H) ∨ ∃ (p : Addr) (as : List Addr), xs = [.ref p] ∧ H p = some (dctO p as) ∧ Q (.int ((as.length : Nat) : Int)) H) dLen := by
  intro G H vs ds z Q s rs hz k
  have al : Al G H G H := Al.rfl s
  unfold dLen at hz
  split at hz
  · cases hz
    obtain ⟨v, rfl, r⟩ := reps1 rs
    obtain ⟨a, xs, rfl, h, zx, r⟩ := r.lst_
    exact .inl (.inl ⟨a, xs, rfl, .inl (sq_of s h), by rw [r.length]; exact k _ _ _ al (.int _)⟩)
  · cases hz
    obtain ⟨v, rfl, r⟩ := reps1 rs
    obtain ⟨a, xs, rfl, h, zx, r⟩ := r.tup_
    exact .inl (.inl ⟨a, xs, rfl, .inr (s.sqT h), by rw [r.length]; exact k _ _ _ al (.int _)⟩)
  · split at hz
    · rename_i hl
      cases hz
      obtain ⟨v, rfl, r⟩ := reps1 rs
      rw [r.str_]
      exact .inl (.inr ⟨_, rfl, hl, k _ _ _ al (.int _)⟩)
    · cases hz
  · cases hz
    obtain ⟨v, rfl, r⟩ := reps1 rs
    obtain ⟨a, as, rfl, h, r⟩ := r.dct_
    have e := r.length
    rw [List.length_map] at e
    exact .inr ⟨a, as, rfl, s _ _ h, by rw [e]; exact k _ _ _ al (.int _)⟩
  · cases hz
/-- int(n), int(flag), int(text) -/
theorem call_intG : CallR X (.type "int") (fun xs H Q => ((∃ i, xs = [.int i] ∧ Q (.int i) H) ∨ ∃ k, xs = [.bl k] ∧ Q (.int (if k then 1 else 0)) H) ∨ ∃ a n, xs = [.str a] ∧ PySem.intText? a = some n ∧ a.length ≤ 640 ∧ Q (.int n) H) := call_int1.or call_int_str
def dIntOf : List D → Option D
  | [.int i] => some (.int i)
  | [.bl k] => some (.int (if k then 1 else 0))
  | [.str a] => match PySem.intText? a with
    | some n => if a.length ≤ 640 then some (.int n) else none
    | none => none
  | _ => none
theorem sd_int {C : KM} : SndL C (fun xs H Q => ((∃ i, xs = [.int i] ∧ Q (.int i) H) ∨ ∃ k, xs = [.bl k] ∧ Q (.int (if k then 1 else 0)) H) ∨ ∃ a n, xs = [.str a] ∧ PySem.intText? a = some n ∧ a.length ≤ 640 ∧ Q (.int n) H) dIntOf := by
  intro G H vs ds z Q s rs hz k
  have al : Al G H G H := Al.rfl s
  unfold dIntOf at hz
  split at hz
  · cases hz
    obtain ⟨v, rfl, r⟩ := reps1 rs
    rw [r.int_]
    exact .inl (.inl ⟨_, rfl, k _ _ _ al (.int _)⟩)
  · cases hz
    obtain ⟨v, rfl, r⟩ := reps1 rs
    rw [r.bl_]
    exact .inl (.inr ⟨_, rfl, k _ _ _ al (.int _)⟩)
  · split at hz
    · rename_i n hn
      split at hz
      · rename_i hl
        cases hz
        obtain ⟨v, rfl, r⟩ := reps1 rs
        rw [r.str_]
        exact .inr ⟨_, _, rfl, hn, hl, k _ _ _ al (.int _)⟩
      · cases hz
    · cases hz
  · cases hz
def dAbs : List D → Option D
  | [.int i] => some (.int (if i < 0 then -i else i))
  | _ => none
theorem sd_abs {C : KM} : SndL C (fun xs H Q => ∃ i, xs = [.int i] ∧ Q (.int (if i < 0 then -i else i)) H) dAbs := by
  intro G H vs ds z Q s rs hz k
  unfold dAbs at hz
  split at hz
  · cases hz
    obtain ⟨v, rfl, r⟩ := reps1 rs
    rw [r.int_]
    exact ⟨_, rfl, k _ _ _ (Al.rfl s) (.int _)⟩
  · cases hz
def dStr : List D → Option D
  | [.int i] => if i.natAbs.log2 < 1920 then some (.str (toString i)) else none
  | _ => none
theorem sd_str {C : KM} : SndL C (fun xs H Q => ∃ i, xs = [.int i] ∧ i.natAbs.log2 < 1920 ∧ Q (.str (toString i)) H) dStr := by
  intro G H vs ds z Q s rs hz k
  unfold dStr at hz
  split at hz
  · split at hz
    · rename_i hl
      cases hz
      obtain ⟨v, rfl, r⟩ := reps1 rs
      rw [r.int_]
      exact ⟨_, rfl, hl, k _ _ _ (Al.rfl s) (.str _)⟩
    · cases hz
  · cases hz
def dTupOf : List D → Option D
  | [.lst xs] => some (.tup xs)
  | [.tup xs] => some (.tup xs)
  | _ => none
theorem sd_tup {C : KM} : SndL C (fun xs H Q => ∃ p ys, xs = [.ref p] ∧ ((SqL C.K H p ys ∧ ∀ l, H l = none → Q (.ref l) (upd H l (.tup ys))) ∨ (SqT C.K H p ys ∧ Q (.ref p) H))) dTupOf := by
  intro G H vs ds z Q s rs hz k
  unfold dTupOf at hz
  split at hz
  · cases hz
    obtain ⟨v, rfl, r⟩ := reps1 rs
    obtain ⟨a, xs, rfl, h, zx, r⟩ := r.lst_
    exact ⟨a, xs, rfl, .inl ⟨sq_of s h, fun p hp => k _ _ _ (Al.new s hp) (.tup (.of upd_same) zx (r.mono (Sub.new (free_of s hp))))⟩⟩
  · cases hz
    obtain ⟨v, rfl, r⟩ := reps1 rs
    obtain ⟨a, xs, rfl, h, zx, r⟩ := r.tup_
    exact ⟨a, xs, rfl, .inr ⟨s.sqT h, k _ _ _ (Al.rfl s) (.tup h zx r)⟩⟩
  · cases hz
theorem call_listG {X : Cx} (hc : X.calm = true) : CallR X (.type "list") (fun xs H Q => (∃ p ys, xs = [.ref p] ∧ (SqL X.K H p ys ∨ SqT X.K H p ys) ∧ ∀ l, H l = none → Q (.ref l) (upd H l (.lst ys))) ∨ ∃ (d : Addr) (as : List Addr), xs = [V.ref d] ∧ H d = some (dctO d as) ∧ ∀ p, H p = none → Q (.ref p) (upd H p (.lst (as.map V.ref)))) := call_list_of.or (call_list_dc hc)
def dLstOf : List D → Option D
  | [.lst xs] => some (.lst xs)
  | [.tup xs] => some (.lst xs)
  | [.dct xs] => if xs.length ≤ sizeLine then some (.lst xs) else none
  | _ => none
theorem sd_lst {C : KM} : SndL C (fun xs H Q => (∃ p ys, xs = [.ref p] ∧ (SqL C.K H p ys ∨ SqT C.K H p ys) ∧ ∀ l, H l = none → Q (.ref l) (upd H l (.lst ys))) ∨ ∃ (d : Addr) (as : List Addr), xs = [V.ref d] ∧ H d = some (dctO d as) ∧ ∀ p, H p = none → Q (.ref p) (upd H p (.lst (as.map V.ref)))) dLstOf := by
  intro G H vs ds z Q s rs hz k
  unfold dLstOf at hz
  split at hz
  · cases hz
    obtain ⟨v, rfl, r⟩ := reps1 rs
    obtain ⟨a, xs, rfl, h, zx, r⟩ := r.lst_
    exact .inl ⟨a, xs, rfl, .inl (sq_of s h), fun p hp => k _ _ _ (Al.new s hp) (.lst upd_same zx (r.mono (Sub.new (free_of s hp))))⟩
  · cases hz
    obtain ⟨v, rfl, r⟩ := reps1 rs
    obtain ⟨a, xs, rfl, h, zx, r⟩ := r.tup_
    exact .inl ⟨a, xs, rfl, .inr (s.sqT h), fun p hp => k _ _ _ (Al.new s hp) (.lst upd_same zx (r.mono (Sub.new (free_of s hp))))⟩
  · split at hz
    · rename_i hl
      cases hz
      obtain ⟨v, rfl, r⟩ := reps1 rs
      obtain ⟨a, as, rfl, h, r⟩ := r.dct_
      have e := r.length
      exact .inr ⟨a, as, rfl, s _ _ h, fun p hp => k _ _ _ (Al.new s hp) (.lst upd_same (by rw [e]; exact hl) (r.mono (Sub.new (free_of s hp))))⟩
    · cases hz
  · cases hz
/-- truth values, ints among the data -/
def D.bls : List D → Option (List Bool)
  | [] => some []
  | .bl b :: r => (D.bls r).map (b :: ·)
  | _ => none
def D.ints : List D → Option (List Int)
  | [] => some []
  | .int b :: r => (D.ints r).map (b :: ·)
  | _ => none
theorem Reps.bls {C : KM} {G : Hp} : ∀ {ds : List D} {vs : List V} {bs : List Bool}, Reps C G vs ds → D.bls ds = some bs → vs = bs.map V.bl
  | [], _, _, h, e => by cases h; cases e; rfl
  | d :: ds, _, bs, h, e => by
    cases h with
    | cons h t =>
      cases d with
      | bl b =>
        have e' : (D.bls ds).map (b :: ·) = some bs := e
        cases q : D.bls ds with
        | none => rw [q] at e'; cases e'
        | some cs =>
          rw [q] at e'
          cases e'
          rw [h.bl_, Reps.bls t q]; rfl
      | _ => cases e
theorem Reps.ints {C : KM} {G : Hp} : ∀ {ds : List D} {vs : List V} {bs : List Int}, Reps C G vs ds → D.ints ds = some bs → vs = bs.map V.int
  | [], _, _, h, e => by cases h; cases e; rfl
  | d :: ds, _, bs, h, e => by
    cases h with
    | cons h t =>
      cases d with
      | int b =>
        have e' : (D.ints ds).map (b :: ·) = some bs := e
        cases q : D.ints ds with
        | none => rw [q] at e'; cases e'
        | some cs =>
          rw [q] at e'
          cases e'
          rw [h.int_, Reps.ints t q]; rfl
      | _ => cases e
def dAll : List D → Option D
  | [.lst xs] => (D.bls xs).map fun bs => .bl (bs.all id)
  | _ => none
def dAny : List D → Option D
  | [.lst xs] => (D.bls xs).map fun bs => .bl (bs.any id)
  | _ => none
def dSum : List D → Option D
  | [.lst xs] => (D.ints xs).map fun bs => .int bs.sum
  | _ => none
theorem sd_all {C : KM} : SndL C (rAll C.K) dAll := by
  intro G H vs ds z Q s rs hz k
  unfold dAll at hz
  split at hz
  · obtain ⟨bs, e1, rfl⟩ := Option.map_eq_some_iff.mp hz
    obtain ⟨v, rfl, r⟩ := reps1 rs
    obtain ⟨a, xs, rfl, h, zx, r⟩ := r.lst_
    rw [r.bls e1] at h
    exact ⟨a, bs, rfl, sq_of s h, k _ _ _ (Al.rfl s) (.bl _)⟩
  · cases hz
theorem sd_any {C : KM} : SndL C (rAny C.K) dAny := by
  intro G H vs ds z Q s rs hz k
  unfold dAny at hz
  split at hz
  · obtain ⟨bs, e1, rfl⟩ := Option.map_eq_some_iff.mp hz
    obtain ⟨v, rfl, r⟩ := reps1 rs
    obtain ⟨a, xs, rfl, h, zx, r⟩ := r.lst_
    rw [r.bls e1] at h
    exact ⟨a, bs, rfl, sq_of s h, k _ _ _ (Al.rfl s) (.bl _)⟩
  · cases hz
theorem sd_sum {C : KM} : SndL C (rSum C.K) dSum := by
  intro G H vs ds z Q s rs hz k
  unfold dSum at hz
  split at hz
  · obtain ⟨bs, e1, rfl⟩ := Option.map_eq_some_iff.mp hz
    obtain ⟨v, rfl, r⟩ := reps1 rs
    obtain ⟨a, xs, rfl, h, zx, r⟩ := r.lst_
    rw [r.ints e1] at h
    exact ⟨a, bs, rfl, sq_of s h, k _ _ _ (Al.rfl s) (.int _)⟩
  · cases hz
def dMax2 : List D → Option D
  | [.int i, .int j] => some (.int (if j > i then j else i))
  | _ => none
def dMin2 : List D → Option D
  | [.int i, .int j] => some (.int (if j < i then j else i))
  | _ => none
theorem sd_max2 {C : KM} : SndL C (fun xs H Q => ∃ i j, xs = [.int i, .int j] ∧ Q (.int (if j > i then j else i)) H) dMax2 := by
  intro G H vs ds z Q s rs hz k
  unfold dMax2 at hz
  split at hz
  · cases hz
    obtain ⟨v, w, rfl, r, r'⟩ := reps2 rs
    rw [r.int_, r'.int_]
    exact ⟨_, _, rfl, k _ _ _ (Al.rfl s) (.int _)⟩
  · cases hz
theorem sd_min2 {C : KM} : SndL C (fun xs H Q => ∃ i j, xs = [.int i, .int j] ∧ Q (.int (if j < i then j else i)) H) dMin2 := by
  intro G H vs ds z Q s rs hz k
  unfold dMin2 at hz
  split at hz
  · cases hz
    obtain ⟨v, w, rfl, r, r'⟩ := reps2 rs
    rw [r.int_, r'.int_]
    exact ⟨_, _, rfl, k _ _ _ (Al.rfl s) (.int _)⟩
  · cases hz
/-! ### isinstance(x, T), T a built-in class by its name -/
def D.ty : D → Option String
  | .non => some "NoneType"
  | .bl _ => some "bool"
  | .int _ => some "int"
  | .str _ => some "str"
  | .lst _ => some "list"
  | .tup _ => some "tuple"
  | _ => none
theorem ty_of {C : KM} {G H : Hp} (s : Sub G H) {v : V} {d : D} {n : String} (r : Rep C G v d) (h : d.ty = some n) : TyX C.K H v (.type n) := by
  cases r with
  | non => cases h; exact .base .non
  | bl _ => cases h; exact .base (.bl _)
  | int _ => cases h; exact .base (.int _)
  | str _ => cases h; exact .base (.str _)
  | lst h' z r => cases h; exact .base (.lst (s _ _ h'))
  | tup h' z r =>
    cases h
    rcases h' with (h' | ⟨o, h'⟩) | ⟨o, its, m, h1, h2, _⟩
    · exact .base (.tup (s _ _ h'))
    · exact .fTuple (s _ _ h')
    · exact .kTuple h1 h2
  | fn _ => cases h
  | lsf h' z r => cases h
  | dct h' r => cases h
def dIsi (T : String) : List D → Option D
  | [d] => match d.ty with
    | some n => (kitB n T).map .bl
    | none => none
  | _ => none
/-- isinstance with the class left out of the data -/
theorem px_isi {cs : Option Nat} {W : WX} {a : Expr} {fa : M D} {pos p p2 : Pos} {xs : List Str} {sc : Scope} {T : String} {x : Str} (i j : Nat) (h : glB xs sc = true) (ha : PX X cs W a fa) (hm : X.mg "isinstance" = none) (hm2 : X.mg x = none) (hv : bootBuiltins "isinstance" = some (.builtin "isinstance")) (hv2 : bootBuiltins x = some (.type T))
    (esc : X.env.scope = sc := by rfl) (hi : xs[i]? = some "isinstance" := by rfl) (hj : xs[j]? = some x := by rfl) (he : starEach [a, .Name x p2] X.env = (false, eval a X.env) :: starEach [.Name x p2] X.env := by rfl) (he2 : starEach [.Name x p2] X.env = [(false, eval (.Name x p2) X.env)] := by rfl) (hpl : (backTo pos (starEach [.Name x p2] X.env)).any (·.1) = false := by rfl) :
    PX X cs W (.Call (.Name "isinstance" p) [a, .Name x p2] [] pos) (eUn (fun d => dIsi T [d]) fa) := by
  obtain ⟨h1, h2, h3⟩ := gl_of h hi esc
  obtain ⟨g1, g2, g3⟩ := gl_of h hj esc
  obtain ⟨ta, pa, ra⟩ := ha
  refine ⟨_, pe_callB call_isi h1 hm hv (pa_cons pa (pa_cons (pe_bltn (v := .ty T) g1 hm2 hv2 rfl g3 g2) pa_nil he2) he) h3 h2 he hpl, ⟨fun σ ρ κ G H A Q e k => ra.run σ ρ κ G H A _ e (Res.mono (Res.bind k) ?_)⟩⟩
  intro y G1 H1 _ ⟨κ1, e1, k1⟩ v rv
  refine res_ofO e1 k1 fun z hz q => ?_
  have hz' : (match y.ty with
    | some n => (kitB n T).map D.bl
    | none => none) = some z := hz
  split at hz'
  · rename_i n hn
    obtain ⟨b, e2, rfl⟩ := Option.map_eq_some_iff.mp hz'
    exact ⟨v, .ty T, .type n, .type T, b, rfl, .ty T, ty_of e1.gh rv hn, kit_ty e2, q _ _ (Al.rfl e1.gh) _ (.bl _)⟩
  · cases hz'
end
end G

set_option Elab.async false
set_option linter.all false
set_option maxRecDepth 100000
/-! What a for walks; comprehensions. -/
namespace G
open PySem PySem.Spec PyProof.Rows L2 RZ
/-- J walks ds, from any heap that bears G0 on -/
def ItOk (C : KM) (J : It) (G0 : Hp) (ds : List D) : Prop := ∀ G H, Sub G0 G → Sub G H → (∀ (i : Nat) (d : D), ds[i]? = some d → J.go i H ∧ ∀ x H', J.yld i H x H' → ∃ G', Al G H G' H' ∧ Rep C G' x d) ∧ J.stop ds.length H
structure IXt (C : KM) (cs : Option Nat) (W : WX) (wi : TI) (f : M (List D)) : Prop where
  run : ∀ (σ : St) (ρ : Sd) (κ : Kp) (G H : Hp) (A : Addr → Prop) (R : It → Hp → Prop), EV C G H cs σ ρ κ A → Res C cs W σ ρ G H A (fun ds G' H' => ∀ J, ItOk C J G' ds → R J H') (f ρ κ) → wi σ H R
def IX (X : Cx) (cs : Option Nat) (W : WX) (tg iter : Expr) (f : M (List D)) : Prop := ∃ wi, PI X tg iter wi ∧ IXt (Cx.C X) cs W wi f
theorem ItOk.list {C : KM} {a : Addr} {G0 : Hp} {xs : List V} {ds : List D} (h : G0 a = some (.lst xs)) (r : Reps C G0 xs ds) : ItOk C (Itl C.K a) G0 ds := by
  intro G H s0 s
  have hs : SqL C.K H a xs := .inl (.inl (s _ _ (s0 _ _ h)))
  refine ⟨fun i d hd => ?_, ⟨xs, hs, by rw [r.length]; exact Nat.le_refl _⟩⟩
  obtain ⟨v, hv, rv⟩ := r.get hd
  refine ⟨⟨xs, v, hs, hv⟩, fun x H' y => ?_⟩
  obtain ⟨e, y⟩ := y
  subst e
  have e2 := y xs hs
  rw [hv] at e2
  cases e2
  exact ⟨G, Al.rfl s, rv.mono s0⟩
theorem ItOk.tup {C : KM} {a : Addr} {G0 : Hp} {xs : List V} {ds : List D} (h : SqT C.K G0 a xs) (r : Reps C G0 xs ds) : ItOk C (Itt C.K a) G0 ds := by
  intro G H s0 s
  have hs : SqT C.K H a xs := s.sqT (s0.sqT h)
  refine ⟨fun i d hd => ?_, ⟨xs, hs, by rw [r.length]; exact Nat.le_refl _⟩⟩
  obtain ⟨v, hv, rv⟩ := r.get hd
  refine ⟨⟨xs, v, hs, hv⟩, fun x H' y => ?_⟩
  obtain ⟨e, y⟩ := y
  subst e
  have e2 := y xs hs
  rw [hv] at e2
  cases e2
  exact ⟨G, Al.rfl s, rv.mono s0⟩
/-- the signs of a text -/
def signs (x : Str) : List D := x.cps.toList.map fun c => .str ⟨#[c]⟩
theorem ItOk.str {C : KM} {x : Str} {G0 : Hp} : ItOk C (Its x) G0 (signs x) := by
  intro G H s0 s
  refine ⟨fun i d hd => ?_, by show x.cps.size ≤ (signs x).length; unfold signs; simp⟩
  unfold signs at hd
  rw [List.getElem?_map] at hd
  cases q : x.cps.toList[i]? with
  | none => rw [q] at hd; cases hd
  | some c =>
    rw [q] at hd
    cases hd
    have q' : x.cps[i]? = some c := by rw [← Array.getElem?_toList]; exact q
    refine ⟨(Array.getElem?_eq_some_iff.mp q').1, fun v H' y => ?_⟩
    obtain ⟨e, c', e1, e2⟩ := y
    subst e
    rw [q'] at e1
    cases e1
    subst e2
    exact ⟨G, Al.rfl s, .str _⟩
def rangeD (lo : Int) (n : Nat) : List D := (List.range n).map fun k => .int (lo + (k : Nat))
theorem rangeD_len (lo : Int) (n : Nat) : (rangeD lo n).length = n := by unfold rangeD; simp
theorem ItOk.range {C : KM} {lo : Int} {n : Nat} {G0 : Hp} : ItOk C (Itr lo n) G0 (rangeD lo n) := by
  intro G H s0 s
  refine ⟨fun i d hd => ?_, by show n ≤ _; rw [rangeD_len]; exact Nat.le_refl _⟩
  have hi : i < n := by
    have := (List.getElem?_eq_some_iff.mp hd).1
    rw [rangeD_len] at this
    exact this
  have e : d = .int (lo + (i : Nat)) := by
    unfold rangeD at hd
    rw [List.getElem?_map, List.getElem?_range hi] at hd
    cases hd; rfl
  subst e
  refine ⟨hi, fun v H' y => ?_⟩
  obtain ⟨e, y⟩ := y
  subst e
  subst y
  exact ⟨G, Al.rfl s, .int _⟩
/-- numbered items -/
def enumD (ds : List D) : List D := ds.mapIdx fun i d => .tup [.int (i : Nat), d]
theorem ItOk.enum {C : KM} {a : Addr} {G0 : Hp} {xs : List V} {ds : List D} (h : G0 a = some (.lst xs)) (r : Reps C G0 xs ds) : ItOk C (Ite C.K a) G0 (enumD ds) := by
  intro G H s0 s
  have hs : SqL C.K H a xs := .inl (.inl (s _ _ (s0 _ _ h)))
  refine ⟨fun i d hd => ?_, ⟨xs, hs, by rw [r.length]; unfold enumD; simp⟩⟩
  unfold enumD at hd
  rw [List.getElem?_mapIdx] at hd
  cases q : ds[i]? with
  | none => rw [q] at hd; cases hd
  | some d0 =>
    rw [q] at hd
    cases hd
    obtain ⟨v, hv, rv⟩ := r.get q
    refine ⟨⟨xs, v, hs, hv⟩, fun x H' y => ?_⟩
    obtain ⟨T, w, e1, nT, e2, e3⟩ := y
    have e4 := e3 xs hs
    rw [hv] at e4
    cases e4
    subst e1 e2
    refine ⟨_, Al.new s nT, .tup (.of upd_same) (by show 2 ≤ sizeLine; rw [sizeLine_eq]; decide) (.cons (.int _) (.cons ((rv.mono s0).mono (Sub.new (free_of s nT))) .nil))⟩
/-- pairs -/
def zipD (ds es : List D) : List D := List.zipWith (fun d e => .tup [d, e]) ds es
theorem zipD_get {ds es : List D} {i : Nat} {d : D} (h : (zipD ds es)[i]? = some d) : ∃ x y, ds[i]? = some x ∧ es[i]? = some y ∧ d = .tup [x, y] := by
  unfold zipD at h
  rw [List.getElem?_zipWith] at h
  split at h
  · rename_i x y h1 h2
    cases h
    exact ⟨x, y, h1, h2, rfl⟩
  · cases h
theorem ItOk.zip {C : KM} {a b : Addr} {G0 : Hp} {xs ys : List V} {ds es : List D} (h : G0 a = some (.lst xs)) (r : Reps C G0 xs ds) (h' : G0 b = some (.lst ys)) (r' : Reps C G0 ys es) : ItOk C (Itz C.K a b) G0 (zipD ds es) := by
  intro G H s0 s
  have hs : SqL C.K H a xs := .inl (.inl (s _ _ (s0 _ _ h)))
  have hs' : SqL C.K H b ys := .inl (.inl (s _ _ (s0 _ _ h')))
  refine ⟨fun i d hd => ?_, ⟨xs, ys, hs, hs', by rw [r.length, r'.length]; unfold zipD; rw [List.length_zipWith]; omega⟩⟩
  obtain ⟨d0, e0, q1, q2, rfl⟩ := zipD_get hd
  obtain ⟨v, hv, rv⟩ := r.get q1
  obtain ⟨w, hw, rw'⟩ := r'.get q2
  refine ⟨⟨xs, ys, v, w, hs, hs', hv, hw⟩, fun x H' y => ?_⟩
  obtain ⟨T, p, q, e1, nT, e2, e3, e4⟩ := y
  have e5 := e3 xs hs
  have e6 := e4 ys hs'
  rw [hv] at e5
  rw [hw] at e6
  cases e5
  cases e6
  subst e1 e2
  have sn := Sub.new (o := HO.tup [v, w]) (free_of s nT)
  exact ⟨_, Al.new s nT, .tup (.of upd_same) (by show 2 ≤ sizeLine; rw [sizeLine_eq]; decide) (.cons ((rv.mono s0).mono sn) (.cons ((rw'.mono s0).mono sn) .nil))⟩
theorem ItOk.zipT {C : KM} {a b : Addr} {G0 : Hp} {xs ys : List V} {ds es : List D} (h : SqT C.K G0 a xs) (r : Reps C G0 xs ds) (h' : SqT C.K G0 b ys) (r' : Reps C G0 ys es) : ItOk C (ItzT C.K a b) G0 (zipD ds es) := by
  intro G H s0 s
  have hs : SqT C.K H a xs := s.sqT (s0.sqT h)
  have hs' : SqT C.K H b ys := s.sqT (s0.sqT h')
  refine ⟨fun i d hd => ?_, ⟨xs, ys, hs, hs', by rw [r.length, r'.length]; unfold zipD; rw [List.length_zipWith]; omega⟩⟩
  obtain ⟨d0, e0, q1, q2, rfl⟩ := zipD_get hd
  obtain ⟨v, hv, rv⟩ := r.get q1
  obtain ⟨w, hw, rw'⟩ := r'.get q2
  refine ⟨⟨xs, ys, v, w, hs, hs', hv, hw⟩, fun x H' y => ?_⟩
  obtain ⟨T, p, q, e1, nT, e2, e3, e4⟩ := y
  have e5 := e3 xs hs
  have e6 := e4 ys hs'
  rw [hv] at e5
  rw [hw] at e6
  cases e5
  cases e6
  subst e1 e2
  have sn := Sub.new (o := HO.tup [v, w]) (free_of s nT)
  exact ⟨_, Al.new s nT, .tup (.of upd_same) (by show 2 ≤ sizeLine; rw [sizeLine_eq]; decide) (.cons ((rv.mono s0).mono sn) (.cons ((rw'.mono s0).mono sn) .nil))⟩

section
variable {X : Cx} {cs : Option Nat} {W : WX} {tg e e2 : Expr} {fa fb : M D} {pos p : Pos}
/-- a list, a tuple or a text -/
def iAny (K : PySem.W.Frag) (tl : TE) : TI := fun σ H R => tl σ H fun x H1 => (∃ a xs, x = .ref a ∧ SqL K H1 a xs ∧ R (Itl K a) H1) ∨ (∃ a xs, x = .ref a ∧ SqT K H1 a xs ∧ R (Itt K a) H1) ∨ ∃ z, x = .str z ∧ R (Its z) H1
theorem pi_any {tl : TE} (hl : PE X e tl) : PI X tg e (iAny X.K tl) := by
  refine ⟨fun pins s σ H R I h => thn (hl.run pins s σ H _ I h) ?_⟩
  rintro v s1 ⟨x, H1, I1, r1, q1⟩
  have fp1 : ∀ b ∈ [s1.heap.objs.size], FpOk X pins H1 b := fun b hb => by
    have e : b = s1.heap.objs.size := by simpa using hb
    rw [e]
    exact I1.fpOk (Nat.le_refl _) (I1.hok.fresh (Nat.le_refl _))
  rcases q1 with ⟨a, xs, ex, hq, q⟩ | ⟨a, xs, ex, hq, q⟩ | ⟨z, ex, q⟩
  · subst ex
    cases r1
    obtain ⟨its, rv, pl, hz⟩ := I1.list hq
    exact wpAny_pyIter_list pl.isList ⟨_, [s1.heap.objs.size], _, _, H1, rfl, I1.kept (t' := s1.toks) (fun b o e => Heap.get?_push_of_some _ e), turn_list a _, ⟨_, Heap.get?_push_size _ rfl, rfl, rfl⟩, fp1, q⟩
  · subst ex
    cases r1
    obtain ⟨its, rv, pl, hz⟩ := I1.tuple hq
    exact wpAny_pyIter_tuple (show s1.heap.IsTuple a its.toArray from pl) ⟨_, [s1.heap.objs.size], _, _, H1, rfl, I1.kept (t' := s1.toks) (fun b o e => Heap.get?_push_of_some _ e), turn_tuple a _, ⟨_, Heap.get?_push_size _ rfl, rfl, rfl⟩, fp1, q⟩
  · subst ex
    obtain ⟨t, rfl⟩ := r1
    cases ha : z.cps.all (· < 128)
    · exact wpAny_pyIter_wide ha (pi_one (tk := s1.toks) I1 _ (turn_str _ z t _ (.inr rfl)) ⟨_, Heap.get?_push_size _ rfl, rfl, rfl⟩ q)
    · exact wpAny_pyIter_ascii ha (pi_one (tk := s1.toks) I1 _ (turn_str _ z t _ (.inl rfl)) ⟨_, Heap.get?_push_size _ rfl, rfl, rfl⟩ q)
def D.items : D → Option (List D)
  | .lst xs => some xs
  | .tup xs => some xs
  | .str z => some (signs z)
  | _ => none
def iOf (fa : M D) : M (List D) := fun ρ κ => (fa ρ κ).bind fun x κ => ofO x.items κ
theorem ix_any (ha : PX X cs W e fa) : IX X cs W tg e (iOf fa) := by
  obtain ⟨ta, pa, ra⟩ := ha
  refine ⟨_, pi_any pa, ⟨fun σ ρ κ G H A R e k => ra.run σ ρ κ G H A _ e (Res.mono (Res.bind k) ?_)⟩⟩
  intro x G1 H1 _ ⟨κ1, e1, k1⟩ v rv
  have s := e1.gh
  have fin : ∀ {ds : List D}, Res (Cx.C X) cs W σ ρ G1 H1 A (fun ds G' H' => ∀ J, ItOk (Cx.C X) J G' ds → R J H') (Out.ok ds κ1) → ∀ J, ItOk (Cx.C X) J G1 ds → R J H1 := fun {ds} k J h => k G1 H1 Go.rfl e1 J h
  cases rv with
  | @lst a xs ds h z r => exact .inl ⟨a, xs, rfl, sq_of s h, fin (ds := ds) k1 _ (ItOk.list h r)⟩
  | @tup a xs ds h z r => exact .inr (.inl ⟨a, xs, rfl, s.sqT h, fin (ds := ds) k1 _ (ItOk.tup h r)⟩)
  | str z => exact .inr (.inr ⟨z, rfl, fin (ds := signs z) k1 _ ItOk.str⟩)
  | _ => exact (show False from k1).elim
/-- range(b), range(a, b), range(a, b, c) -/
def dRange1 : List D → Option (List D)
  | [.int b] => if -(2 ^ 62) ≤ b ∧ b < 2 ^ 62 then some (rangeD 0 b.toNat) else none
  | _ => none
def dRange2 : List D → Option (List D)
  | [.int a, .int b] => if -(2 ^ 62) ≤ a ∧ a < 2 ^ 62 ∧ -(2 ^ 62) ≤ b ∧ b < 2 ^ 62 then some (rangeD a (b - a).toNat) else none
  | _ => none
def stepD (lo c : Int) (n : Nat) : List D := (List.range n).map fun k => .int (lo + (k : Nat) * c)
theorem stepD_len (lo c : Int) (n : Nat) : (stepD lo c n).length = n := by unfold stepD; simp
def dRange3 : List D → Option (List D)
  | [.int a, .int b, .int c] => if c ≠ 0 ∧ c.natAbs < 1073741824 ∧ Builtin.Range.small a b c = true ∧ 0 ≤ Builtin.Range.rangeSize a b c then some (stepD a c (Builtin.Range.rangeSize a b c).toNat) else none
  | _ => none
theorem ItOk.step {C : KM} {lo c : Int} {n : Nat} {G0 : Hp} : ItOk C (Itc lo c n) G0 (stepD lo c n) := by
  intro G H s0 s
  refine ⟨fun i d hd => ?_, by show n ≤ _; rw [stepD_len]; exact Nat.le_refl _⟩
  have hi : i < n := by
    have := (List.getElem?_eq_some_iff.mp hd).1
    rw [stepD_len] at this
    exact this
  have e : d = .int (lo + (i : Nat) * c) := by
    unfold stepD at hd
    rw [List.getElem?_map, List.getElem?_range hi] at hd
    cases hd; rfl
  subst e
  refine ⟨hi, fun v H' y => ?_⟩
  obtain ⟨e, y⟩ := y
  subst e
  subst y
  exact ⟨G, Al.rfl s, .int _⟩
def iArgs (g : List D → Option (List D)) (fs : M (List D)) : M (List D) := fun ρ κ => (fs ρ κ).bind fun xs κ => if noCel xs = true then ofO (g xs) κ else .bad
theorem args_it {t : TA} {fs : M (List D)} {g : List D → Option (List D)} {r : List V → Hp → (It → Hp → Prop) → Prop} (hs : ∀ G H vs ds zs R, Sub G H → Reps (Cx.C X) G vs ds → g ds = some zs → (∀ J, ItOk (Cx.C X) J G zs → R J H) → r vs H R) (h : AXt (Cx.C X) cs W t fs) :
    IXt (Cx.C X) cs W (fun σ H R => t σ H fun vs H1 => r vs H1 R) (iArgs g fs) := by
  refine ⟨fun σ ρ κ G H A Q e k => h.run σ ρ κ G H A _ e (Res.mono (Res.bind k) ?_)⟩
  intro xs G1 H1 _ ⟨κ1, e1, k1⟩ vs rvs
  by_cases hn : noCel xs = true
  · rw [if_pos hn] at k1
    cases hz : g xs with
    | none => rw [hz] at k1; exact (show False from k1).elim
    | some zs =>
      rw [hz] at k1
      exact hs G1 H1 vs xs zs Q e1.gh (rvs.reps hn) hz fun J hJ => k1 G1 H1 Go.rfl e1 J hJ
  · rw [if_neg hn] at k1
    exact (show False from k1).elim
theorem ix_range1 {xs : List Str} {sc : Scope} {fs : M (List D)} (i : Nat) (h : glB xs sc = true) (hm : X.mg "range" = none) (ha : AX X cs W [e] fs) (esc : X.env.scope = sc := by rfl) (hi : xs[i]? = some (Str.ofString "range") := by rfl) (hs : starEach [e] X.env = [(false, eval e X.env)] := by rfl) :
    IX X cs W tg (.Call (.Name "range" p) [e] [] pos) (iArgs dRange1 fs) := by
  obtain ⟨h1, _, _⟩ := gl_of h hi esc
  obtain ⟨t, pt, rt⟩ := ha
  refine ⟨_, pi_range1 h1 hm pt hs, args_it (g := dRange1) (r := fun vs H1 R => ∃ j : Int, vs = [.int j] ∧ -(2 ^ 62) ≤ j ∧ j < 2 ^ 62 ∧ R (Itr 0 j.toNat) H1) ?_ rt⟩
  intro G H vs ds zs R s rs hz k
  unfold dRange1 at hz
  split at hz
  · split at hz
    · rename_i b hb
      cases hz
      obtain ⟨v, rfl, r⟩ := reps1 rs
      rw [r.int_]
      exact ⟨b, rfl, hb.1, hb.2, k _ ItOk.range⟩
    · cases hz
  · cases hz
theorem ix_range2 {xs : List Str} {sc : Scope} {fs : M (List D)} (i : Nat) (h : glB xs sc = true) (hm : X.mg "range" = none) (ha : AX X cs W [e, e2] fs) (esc : X.env.scope = sc := by rfl) (hi : xs[i]? = some (Str.ofString "range") := by rfl)
    (hs : starEach [e, e2] X.env = [(false, eval e X.env), (false, eval e2 X.env)] := by rfl) (hs2 : starEach [e2] X.env = [(false, eval e2 X.env)] := by rfl) : IX X cs W tg (.Call (.Name "range" p) [e, e2] [] pos) (iArgs dRange2 fs) := by
  obtain ⟨h1, _, _⟩ := gl_of h hi esc
  obtain ⟨t, pt, rt⟩ := ha
  refine ⟨_, pi_range2 h1 hm pt hs hs2, args_it (g := dRange2) (r := fun vs H1 R => ∃ i j : Int, vs = [.int i, .int j] ∧ (-(2 ^ 62) ≤ i ∧ i < 2 ^ 62 ∧ -(2 ^ 62) ≤ j ∧ j < 2 ^ 62) ∧ R (Itr i (j - i).toNat) H1) ?_ rt⟩
  intro G H vs ds zs R s rs hz k
  unfold dRange2 at hz
  split at hz
  · split at hz
    · rename_i a b hb
      cases hz
      obtain ⟨v, w, rfl, r, r'⟩ := reps2 rs
      rw [r.int_, r'.int_]
      exact ⟨a, b, rfl, hb, k _ ItOk.range⟩
    · cases hz
  · cases hz
theorem ix_range3 {xs : List Str} {sc : Scope} {e3 : Expr} {fs : M (List D)} (i : Nat) (h : glB xs sc = true) (hm : X.mg "range" = none) (ha : AX X cs W [e, e2, e3] fs) (esc : X.env.scope = sc := by rfl) (hi : xs[i]? = some (Str.ofString "range") := by rfl)
    (hs : starEach [e, e2, e3] X.env = (false, eval e X.env) :: starEach [e2, e3] X.env := by rfl) (hpl : (backTo pos (starEach [e2, e3] X.env)).any (·.1) = false := by rfl) : IX X cs W tg (.Call (.Name "range" p) [e, e2, e3] [] pos) (iArgs dRange3 fs) := by
  obtain ⟨h1, _, _⟩ := gl_of h hi esc
  obtain ⟨t, pt, rt⟩ := ha
  refine ⟨_, pi_range3 h1 hm pt hs hpl, args_it (g := dRange3) (r := fun vs H1 R => ∃ (i j c : Int) (n : Nat), vs = [.int i, .int j, .int c] ∧ RgC i j c n ∧ R (Itc i c n) H1) ?_ rt⟩
  intro G H vs ds zs R s rs hz k
  unfold dRange3 at hz
  split at hz
  · split at hz
    · rename_i a b c hb
      cases hz
      cases rs with
      | cons r rs =>
        obtain ⟨v, w, rfl, r', r''⟩ := reps2 rs
        rw [r.int_, r'.int_, r''.int_]
        exact ⟨a, b, c, _, rfl, ⟨hb.1, hb.2.1, hb.2.2.1, (Int.toNat_of_nonneg hb.2.2.2).symm⟩, k _ ItOk.step⟩
    · cases hz
  · cases hz
/-- enumerate(xs), zip(xs, ys) -/
def dEnum : List D → Option (List D)
  | [.lst xs] => some (enumD xs)
  | _ => none
def dZip : List D → Option (List D)
  | [.lst xs, .lst ys] => some (zipD xs ys)
  | [.tup xs, .tup ys] => some (zipD xs ys)
  | _ => none
theorem ix_enum {xs : List Str} {sc : Scope} {fs : M (List D)} {elts : List Expr} {kk : Nat} {tpos : Pos} (i : Nat) (h : glB xs sc = true) (hm : X.mg "enumerate" = none) (ha : AX X cs W [e] fs) (esc : X.env.scope = sc := by rfl) (hi : xs[i]? = some (Str.ofString "enumerate") := by rfl)
    (hs : starEach [e] X.env = [(false, eval e X.env)] := by rfl) : IX X cs W (.Tuple elts kk tpos) (.Call (.Name "enumerate" p) [e] [] pos) (iArgs dEnum fs) := by
  obtain ⟨h1, _, _⟩ := gl_of h hi esc
  obtain ⟨t, pt, rt⟩ := ha
  refine ⟨_, pi_enum h1 hm pt hs, args_it (g := dEnum) (r := fun vs H1 R => ∃ a xs, vs = [.ref a] ∧ SqL X.K H1 a xs ∧ R (Ite X.K a) H1) ?_ rt⟩
  intro G H vs ds zs R s rs hz k
  unfold dEnum at hz
  split at hz
  · cases hz
    obtain ⟨v, rfl, r⟩ := reps1 rs
    obtain ⟨a, ys, rfl, h, z, r⟩ := r.lst_
    exact ⟨a, ys, rfl, sq_of s h, k _ (ItOk.enum h r)⟩
  · cases hz
theorem ix_zip {xs : List Str} {sc : Scope} {fs : M (List D)} {elts : List Expr} {kk : Nat} {tpos : Pos} (i : Nat) (h : glB xs sc = true) (hm : X.mg "zip" = none) (ha : AX X cs W [e, e2] fs) (esc : X.env.scope = sc := by rfl) (hi : xs[i]? = some (Str.ofString "zip") := by rfl)
    (hs : starEach [e, e2] X.env = (false, eval e X.env) :: starEach [e2] X.env := by rfl) (hpl : (backTo pos (starEach [e2] X.env)).any (·.1) = false := by rfl) : IX X cs W (.Tuple elts kk tpos) (.Call (.Name "zip" p) [e, e2] [] pos) (iArgs dZip fs) := by
  obtain ⟨h1, _, _⟩ := gl_of h hi esc
  obtain ⟨t, pt, rt⟩ := ha
  refine ⟨_, pi_zipA h1 hm pt hs hpl, args_it (g := dZip) (r := fun vs H1 R => ∃ a b xs ys, vs = [.ref a, .ref b] ∧ ((SqL X.K H1 a xs ∧ SqL X.K H1 b ys ∧ R (Itz X.K a b) H1) ∨ (SqT X.K H1 a xs ∧ SqT X.K H1 b ys ∧ R (ItzT X.K a b) H1))) ?_ rt⟩
  intro G H vs ds zs R s rs hz k
  unfold dZip at hz
  split at hz
  · cases hz
    obtain ⟨v, w, rfl, r, r'⟩ := reps2 rs
    obtain ⟨a, ys, rfl, h, z, r⟩ := r.lst_
    obtain ⟨b, zs, rfl, h', z', r'⟩ := r'.lst_
    exact ⟨a, b, ys, zs, rfl, .inl ⟨sq_of s h, sq_of s h', k _ (ItOk.zip h r h' r')⟩⟩
  · cases hz
    obtain ⟨v, w, rfl, r, r'⟩ := reps2 rs
    obtain ⟨a, ys, rfl, h, z, r⟩ := r.tup_
    obtain ⟨b, zs, rfl, h', z', r'⟩ := r'.tup_
    exact ⟨a, b, ys, zs, rfl, .inr ⟨s.sqT h, s.sqT h', k _ (ItOk.zipT h r h' r')⟩⟩
  · cases hz
end
end G

set_option Elab.async false
set_option linter.all false
set_option maxRecDepth 100000
/-! Targets; comprehensions. -/
namespace G
open PySem PySem.Spec PyProof.Rows L2 RZ
/-- slot i is not the cell's -/
def csOk (cs : Option Nat) (i : Nat) : Bool := match cs with
  | some c => !(c == i)
  | none => true
theorem csOk_ne {cs : Option Nat} {i c : Nat} (h : csOk cs i = true) (e : cs = some c) : c ≠ i := by
  subst e
  intro q
  subst q
  simp [csOk] at h
theorem EV.set {C : KM} {G H : Hp} {cs : Option Nat} {σ : St} {ρ : Sd} {κ : Kp} {A : Addr → Prop} {i : Nat} {v : V} {d : D} (e : EV C G H cs σ ρ κ A) (hc : csOk cs i = true) (r : Rep C G v d) : EV C G H cs (σ.set i (some v)) (ρ.set i (some d)) κ A := by
  refine ⟨e.gh, fun j x hx => ?_, ?_, by simpa using e.ln⟩
  · by_cases hj : i = j
    · subst hj
      by_cases hl : i < ρ.length
      · rw [List.getElem?_set_self hl] at hx
        cases hx
        exact ⟨v, List.getElem?_set_self (by rw [e.ln]; exact hl), r⟩
      · rw [List.getElem?_eq_none (by simpa using hl)] at hx
        cases hx
    · rw [List.getElem?_set_ne hj] at hx
      obtain ⟨w, h1, h2⟩ := e.sl j x hx
      exact ⟨w, by rw [List.getElem?_set_ne hj]; exact h1, h2⟩
  · have ce := e.ce
    cases κ with
    | none => exact ce
    | some ds =>
      obtain ⟨c, a, vs, h1, h2, h3⟩ := ce
      exact ⟨c, a, vs, h1, by rw [List.getElem?_set_ne (fun q => csOk_ne hc h1 q.symm)]; exact h2, h3⟩
/-- data slots forgotten -/
def wipeD (ρ : Sd) : List Nat → Sd
  | [] => ρ
  | v :: vs => (wipeD ρ vs).set v none
theorem wipeD_length (ρ : Sd) : ∀ vs : List Nat, (wipeD ρ vs).length = ρ.length
  | [] => rfl
  | v :: vs => by unfold wipeD; rw [List.length_set, wipeD_length ρ vs]
theorem wipeD_some {ρ : Sd} {i : Nat} {x : D} : ∀ {vs : List Nat}, (wipeD ρ vs)[i]? = some (some x) → ρ[i]? = some (some x) ∧ i ∉ vs
  | [], h => ⟨h, by simp⟩
  | v :: vs, h => by
    unfold wipeD at h
    by_cases hi : v = i
    · subst hi
      by_cases hv : v < (wipeD ρ vs).length
      · rw [List.getElem?_set_self hv] at h; cases h
      · rw [List.getElem?_eq_none (by simpa using hv)] at h; cases h
    · rw [List.getElem?_set_ne hi] at h
      obtain ⟨h1, h2⟩ := wipeD_some h
      exact ⟨h1, by simp only [List.mem_cons, not_or]; exact ⟨fun e => hi e.symm, h2⟩⟩
theorem wipe_same {σ σ' : St} {vs : List Nat} (hl : σ'.length = σ.length) (h : ∀ j, j ∉ vs → σ'[j]? = σ[j]?) : wipe σ' vs = wipe σ vs := by
  refine List.ext_getElem? fun j => ?_
  have gen : ∀ (τ : St), τ.length = σ.length → (wipe τ vs)[j]? = if j ∈ vs then (if j < σ.length then some none else none) else τ[j]? := by
    intro τ ht
    clear h
    induction vs with
    | nil => simp [wipe]
    | cons v vs ih =>
      unfold wipe
      by_cases e : v = j
      · subst e
        by_cases hv : v < σ.length
        · rw [List.getElem?_set_self (by rw [wipe_length, ht]; exact hv)]; simp [hv]
        · rw [List.getElem?_eq_none (by rw [List.length_set, wipe_length, ht]; omega)]; simp [hv]
      · rw [List.getElem?_set_ne e, ih]
        have : (j ∈ v :: vs) ↔ j ∈ vs := by simp only [List.mem_cons]; exact ⟨fun q => q.resolve_left fun z => e z.symm, .inr⟩
        simp only [this]
  rw [gen σ' hl, gen σ rfl]
  split
  · rfl
  · rename_i hn
    exact h j hn
theorem EV.wipe {C : KM} {G H : Hp} {cs : Option Nat} {σ : St} {ρ : Sd} {κ : Kp} {A : Addr → Prop} {vs : List Nat} (e : EV C G H cs σ ρ κ A) (hc : ∀ c, cs = some c → c ∉ vs) : EV C G H cs (wipe σ vs) (wipeD ρ vs) κ A := by
  refine ⟨e.gh, fun j x hx => ?_, ?_, by rw [wipe_length, wipeD_length]; exact e.ln⟩
  · obtain ⟨h1, h2⟩ := wipeD_some hx
    obtain ⟨v, h3, h4⟩ := e.sl j x h1
    exact ⟨v, by rw [wipe_out h2]; exact h3, h4⟩
  · have ce := e.ce
    cases κ with
    | none => exact ce
    | some ds =>
      obtain ⟨c, a, ws, h1, h2, h3⟩ := ce
      exact ⟨c, a, ws, h1, by rw [wipe_out (hc c h1)]; exact h2, h3⟩

/-! ### targets -/
abbrev Tg := D → Sd → Option Sd
structure GXt (C : KM) (cs : Option Nat) (vs : List Nat) (g : TG) (tg : Tg) : Prop where
  run : ∀ (σ : St) (ρ ρ' : Sd) (κ : Kp) (G H : Hp) (A : Addr → Prop) (v : V) (d : D) (Q : St → Hp → Prop), EV C G H cs σ ρ κ A → Rep C G v d → tg d ρ = some ρ' →
    (∀ σ', EV C G H cs σ' ρ' κ A → σ'.length = σ.length → (∀ j, j ∉ vs → σ'[j]? = σ[j]?) → Q σ' H) → g v σ H Q
structure GsXt (C : KM) (cs : Option Nat) (vs : List Nat) (g : TGs) (tg : List D → Sd → Option Sd) : Prop where
  run : ∀ (σ : St) (ρ ρ' : Sd) (κ : Kp) (G H : Hp) (A : Addr → Prop) (ws : List V) (ds : List D) (Q : St → Hp → Prop), EV C G H cs σ ρ κ A → Reps C G ws ds → tg ds ρ = some ρ' →
    (∀ σ', EV C G H cs σ' ρ' κ A → σ'.length = σ.length → (∀ j, j ∉ vs → σ'[j]? = σ[j]?) → Q σ' H) → g ws σ H Q
def GX (X : Cx) (cs : Option Nat) (vs : List Nat) (e : Expr) (tg : Tg) : Prop := ∃ g, PG X e g ∧ GXt (Cx.C X) cs vs g tg
def GsX (X : Cx) (cs : Option Nat) (vs : List Nat) (es : List Expr) (tg : List D → Sd → Option Sd) : Prop := ∃ g, PGs X es g ∧ GsXt (Cx.C X) cs vs g tg
def tName (i : Nat) : Tg := fun d ρ => some (ρ.set i (some d))
def tsNil : List D → Sd → Option Sd := fun ds ρ => match ds with
  | [] => some ρ
  | _ => none
def tsCons (t : Tg) (ts : List D → Sd → Option Sd) : List D → Sd → Option Sd := fun ds ρ => match ds with
  | d :: r => (t d ρ).bind fun ρ' => ts r ρ'
  | [] => none
def tTup (n : Nat) (ts : List D → Sd → Option Sd) : Tg := fun d ρ => match d with
  | .tup ds => if ds.length = n then ts ds ρ else none
  | _ => none
section
variable {X : Cx} {cs : Option Nat} {W : WX} {e : Expr} {es : List Expr} {pos : Pos}
/-- stored names of a scope: locals (or cells of a def's own scope) -/
def lcB (is : List Nat) (N : List Str) (sc : Scope) : Bool := is.all fun i => match N[i]? with
  | some x => (match sc.names.lookup x with
    | some .local => true
    | _ => false)
  | none => false
theorem lc_of {is : List Nat} {N : List Str} {sc : Scope} (h : lcB is N sc = true) {i : Nat} {x : Str} (hi : is.contains i = true) (hN : N[i]? = some x) : sc.names.lookup x = some .local := by
  have h1 := List.all_eq_true.mp h i (List.contains_iff_mem.mp hi)
  rw [hN] at h1
  dsimp only at h1
  split at h1
  · assumption
  · cases h1
theorem gx_name' {i : Nat} {x : Str} {vs : List Nat} (hc : csOk cs i = true) (hv : vs.contains i = true) (hg : PG X (.Name x pos) (gName i)) : GX X cs vs (.Name x pos) (tName i) := by
  refine ⟨_, hg, ⟨fun σ ρ ρ' κ G H A v d Q e r ht k => ?_⟩⟩
  cases ht
  refine k _ (e.set hc r) (by simp) fun j hj => List.getElem?_set_ne fun z => hj ?_
  subst z
  exact List.contains_iff_mem.mp hv
theorem gx_name {is : List Nat} {N : List Str} {sc : Scope} (i : Nat) {x : Str} {vs : List Nat} (h : lcB is N sc = true) (nd : N.Nodup) (eN : X.N = N := by rfl) (esc : X.env.scope = sc := by rfl) (hi : is.contains i = true := by rfl) (hN : N[i]? = some x := by rfl) (hc : csOk cs i = true := by rfl) (hv : vs.contains i = true := by rfl) : GX X cs vs (.Name x pos) (tName i) := by
  have hl := lc_of h hi hN
  rw [← esc] at hl
  rw [← eN] at nd hN
  exact gx_name' hc hv (pg_name nd hN (.inl hl) (.inr hl))
/-- a name of the def that a comprehension captures (a cell of the scope) -/
theorem gx_nameC {is : List Nat} {N : List Str} {sc : Scope} (i : Nat) {x : Str} {vs : List Nat} (h : nmB is N sc = true) (nd : N.Nodup) (hl : sc.names.lookup x = some .cell) (hf : X.fn x = true := by rfl) (eN : X.N = N := by rfl) (esc : X.env.scope = sc := by rfl) (hN : N[i]? = some x := by rfl) (hc : csOk cs i = true := by rfl) (hv : vs.contains i = true := by rfl) : GX X cs vs (.Name x pos) (tName i) := by
  rw [← esc] at hl
  rw [← eN] at nd hN
  exact gx_name' hc hv (pg_name nd hN (.inr hl) (.inl hf))
theorem gsx_nil {vs : List Nat} : GsX X cs vs [] tsNil := by
  refine ⟨_, pgs_nil, ⟨fun σ ρ ρ' κ G H A ws ds Q e r ht k => ?_⟩⟩
  cases ds with
  | nil =>
    cases ht
    cases r
    exact ⟨rfl, k σ e rfl fun _ _ => rfl⟩
  | cons d ds => cases ht
theorem gsx_cons {vs : List Nat} {t : Tg} {ts : List D → Sd → Option Sd} (h1 : GX X cs vs e t) (h2 : GsX X cs vs es ts) (hs : (assignEach (e :: es) X.env).map (·.2) = assign e X.env :: (assignEach es X.env).map (·.2) := by rfl) : GsX X cs vs (e :: es) (tsCons t ts) := by
  obtain ⟨g, p, q⟩ := h1
  obtain ⟨gs, ps, qs⟩ := h2
  refine ⟨_, pgs_cons p ps hs, ⟨fun σ ρ ρ' κ G H A ws ds Q e r ht k => ?_⟩⟩
  cases ds with
  | nil => cases ht
  | cons d ds =>
    cases r with
    | cons r rs =>
      obtain ⟨ρ1, h1, h2⟩ := Option.bind_eq_some_iff.mp ht
      refine ⟨_, _, rfl, q.run σ ρ ρ1 κ G H A _ d _ e r h1 fun σ1 e1 l1 s1 => qs.run σ1 ρ1 ρ' κ G H A _ ds _ e1 rs h2 fun σ2 e2 l2 s2 => k σ2 e2 (l2.trans l1) fun j hj => (s2 j hj).trans (s1 j hj)⟩
theorem gx_tup {vs : List Nat} {k n : Nat} {ts : List D → Sd → Option Sd} (hc : X.calm = true) (h : GsX X cs vs es ts) (hn : (assignEach es X.env).length = n := by rfl) (hst : (assignEach es X.env).findIdx? (·.1) = none := by rfl) : GX X cs vs (.Tuple es k pos) (tTup n ts) := by
  obtain ⟨g, p, q⟩ := h
  refine ⟨_, pg_tup hc p hn hst, ⟨fun σ ρ ρ' κ G H A v d Q e r ht kk => ?_⟩⟩
  cases d with
  | tup ds =>
    have ht' : (if ds.length = n then ts ds ρ else none) = some ρ' := ht
    split at ht'
    · rename_i hl
      obtain ⟨a, xs, rfl, h, z, r⟩ := r.tup_
      exact ⟨a, xs, rfl, e.gh.sqT h, r.length.trans hl, q.run σ ρ ρ' κ G H A xs ds Q e r ht' kk⟩
    · cases ht'
  | _ => cases ht

/-! ### a block of a comprehension: every context of it -/
/-- from readings that hang on the context to one reading -/
theorem blk_px {ι : Type} {Xs : ι → Cx} {C : KM} {cs : Option Nat} {W : WX} {f : M D} (h : ∀ i, ∃ t, PE (Xs i) e t ∧ PXt C cs W t f) : ∃ t, (∀ i, PE (Xs i) e t) ∧ PXt C cs W t f := by
  refine ⟨fun σ H Q => ∀ i t, PE (Xs i) e t → PXt C cs W t f → t σ H Q, fun i => ?_, ⟨fun σ ρ κ G H A Q e k i t _ r => r.run σ ρ κ G H A Q e k⟩⟩
  obtain ⟨t, p, r⟩ := h i
  exact ⟨fun pins s σ H Q I w => p.run pins s σ H Q I (w i t p r)⟩
theorem blk_tx {ι : Type} {Xs : ι → Cx} {C : KM} {cs : Option Nat} {W : WX} {f : M Bool} (h : ∀ i, ∃ t, PT (Xs i) e t ∧ TXt C cs W t f) : ∃ t, (∀ i, PT (Xs i) e t) ∧ TXt C cs W t f := by
  refine ⟨fun σ H Q => ∀ i t, PT (Xs i) e t → TXt C cs W t f → t σ H Q, fun i => ?_, ⟨fun σ ρ κ G H A Q e k i t _ r => r.run σ ρ κ G H A Q e k⟩⟩
  obtain ⟨t, p, r⟩ := h i
  exact ⟨fun pins s σ H Q I w => p.run pins s σ H Q I (w i t p r)⟩
theorem blk_gx {ι : Type} {Xs : ι → Cx} {C : KM} {cs : Option Nat} {vs : List Nat} {f : Tg} (h : ∀ i, ∃ t, PG (Xs i) e t ∧ GXt C cs vs t f) : ∃ t, (∀ i, PG (Xs i) e t) ∧ GXt C cs vs t f := by
  refine ⟨fun v σ H Q => ∀ i t, PG (Xs i) e t → GXt C cs vs t f → t v σ H Q, fun i => ?_, ⟨fun σ ρ ρ' κ G H A v d Q e r ht k i t _ q => q.run σ ρ ρ' κ G H A v d Q e r ht k⟩⟩
  obtain ⟨t, p, r⟩ := h i
  exact ⟨fun pins s σ H v u Q I ru w => p.run pins s σ H v u Q I ru (w i t p r)⟩
theorem blk_ix {ι : Type} {Xs : ι → Cx} {tg : Expr} {C : KM} {cs : Option Nat} {W : WX} {f : M (List D)} (h : ∀ i, ∃ t, PI (Xs i) tg e t ∧ IXt C cs W t f) : ∃ t, (∀ i, PI (Xs i) tg e t) ∧ IXt C cs W t f := by
  refine ⟨fun σ H Q => ∀ i t, PI (Xs i) tg e t → IXt C cs W t f → t σ H Q, fun i => ?_, ⟨fun σ ρ κ G H A Q e k i t _ r => r.run σ ρ κ G H A Q e k⟩⟩
  obtain ⟨t, p, r⟩ := h i
  exact ⟨fun pins s σ H Q I w => p.run pins s σ H Q I (w i t p r)⟩

/-! ### [elt for tg in iter if test] -/
abbrev W0 : WX := fun _ _ _ _ => False
def compGo (vs : List Nat) (tg : Tg) (ft : M Bool) (fe : M D) (ρ : Sd) : List D → Kp → Out (List D)
  | [], κ => .ok [] κ
  | x :: xs, κ => match tg x (wipeD ρ vs) with
    | none => .bad
    | some ρ1 => match ft ρ1 κ with
      | .ok true κ1 => (match fe ρ1 κ1 with
        | .ok y κ2 => (match compGo vs tg ft fe ρ xs κ2 with
          | .ok ys κ3 => .ok (y :: ys) κ3
          | _ => .bad)
        | _ => .bad)
      | .ok false κ1 => compGo vs tg ft fe ρ xs κ1
      | _ => .bad
def eComp (vs : List Nat) (tg : Tg) (fs : M (List D)) (ft : M Bool) (fe : M D) : M (List D) := fun ρ κ => (fs ρ κ).bind fun xs κ => if xs.length ≤ sizeLine then compGo vs tg ft fe ρ xs κ else .bad
def mTrue : M Bool := fun _ κ => .ok true κ
theorem compGo_len {vs : List Nat} {tg : Tg} {ft : M Bool} {fe : M D} {ρ : Sd} : ∀ {xs : List D} {κ κ' : Kp} {ys : List D}, compGo vs tg ft fe ρ xs κ = .ok ys κ' → ys.length ≤ xs.length
  | [], κ, κ', ys, h => by cases h; exact Nat.le_refl _
  | x :: xs, κ, κ', ys, h => by
    unfold compGo at h
    split at h
    · cases h
    · split at h
      · split at h
        · split at h
          · rename_i h3
            cases h
            have := compGo_len h3
            simp only [List.length_cons]
            omega
          · cases h
        · cases h
      · have := compGo_len h
        simp only [List.length_cons]
        omega
      · cases h
theorem compGo_er {vs : List Nat} {tg : Tg} {ft : M Bool} {fe : M D} {ρ : Sd} {x : Exn} : ∀ {xs : List D} {κ κ' : Kp}, compGo vs tg ft fe ρ xs κ = .er x κ' → False
  | [], κ, κ', h => by cases h
  | y :: xs, κ, κ', h => by
    unfold compGo at h
    split at h
    · cases h
    · split at h
      · split at h
        · split at h <;> cases h
        · cases h
      · exact compGo_er h
      · cases h
/-- an expression that lays a new list: the state is told without it -/
structure FXt (C : KM) (cs : Option Nat) (W : WX) (t : TE) (f : M (List D)) : Prop where
  run : ∀ (σ : St) (ρ : Sd) (κ : Kp) (G H : Hp) (A : Addr → Prop) (Q : VK), EV C G H cs σ ρ κ A → Res C cs W σ ρ G H A (fun ds G' H' => ∀ p vs H2, H' p = none → (∀ b, b ≠ p → H2 b = H' b) → H2 p = some (.lst vs) → vs.length ≤ sizeLine → Reps C G' vs ds → Q (.ref p) H2) (f ρ κ) → t σ H Q
def eLst (f : M (List D)) : M D := fun ρ κ => (f ρ κ).bind fun ds κ => .ok (.lst ds) κ
theorem fx_px {C : KM} {t : TE} {f : M (List D)} (h : FXt C cs W t f) : PXt C cs W t (eLst f) := by
  refine ⟨fun σ ρ κ G H A Q e k => h.run σ ρ κ G H A Q e (Res.mono (Res.bind k) ?_)⟩
  intro ds G1 H1 _ ⟨κ1, e1, k1⟩ p vs H2 hp he h2 hl r
  have eH : H2 = upd H1 p (.lst vs) := by
    funext b
    by_cases q : b = p
    · rw [q, upd_same, h2]
    · rw [upd_ne q, he b q]
  subst eH
  have al := Al.new (o := HO.lst vs) e1.gh hp
  exact k1 _ _ (al.go A) (e1.al al) _ (.lst upd_same hl (r.mono (Sub.new (free_of e1.gh hp))))
theorem comp_run {C : KM} {vs : List Nat} {tgd : Tg} {fs : M (List D)} {ft : M Bool} {fe : M D} {wi : TI} {g : TG} {tt : TT} {te : TE} (hcs : ∀ c, cs = some c → c ∉ vs) (hi : IXt C cs W wi fs) (hg : GXt C cs vs g tgd) (ht : TXt C cs W0 tt ft) (he : PXt C cs W0 te fe) :
    FXt C cs W (tLc wi g tt te vs) (eComp vs tgd fs ft fe) := by
  refine ⟨fun σ ρ κ G H A Q e k => hi.run σ ρ κ G H A _ e (Res.mono (Res.bind k) ?_)⟩
  intro ds G1 H1 _ ⟨κ1, e1, k1⟩ J hJ D hD
  by_cases hl : ds.length ≤ sizeLine
  · rw [if_pos hl] at k1
    have gD : G1 D = none := free_of e1.gh hD
    have nA : ¬ A D := fun hA => by
      have ce := e1.ce
      cases κ1 with
      | none => exact ce D hA
      | some xs =>
        obtain ⟨c, a, ws, _, _, h3, _, _, _, h7⟩ := ce
        rw [(h7 D).mp hA, h3] at hD
        cases hD
    cases ho : compGo vs tgd ft fe ρ ds κ1 with
    | bad => rw [ho] at k1; exact (show False from k1).elim
    | er x κ' =>
      exact (compGo_er ho).elim
    | ok ys κe =>
      rw [ho] at k1
      have k2 : ∀ G' H', Go G1 H1 A G' H' A → EV C G' H' cs σ ρ κe A → ∀ p vs H2, H' p = none → (∀ b, b ≠ p → H2 b = H' b) → H2 p = some (.lst vs) → vs.length ≤ sizeLine → Reps C G' vs ys → Q (.ref p) H2 := k1
      -- the invariant: behind i turns
      let Pv : Nat → Hp → Prop := fun i H => ∃ G κi acc ysa rest, Go G1 H1 A G H A ∧ EV C G H cs σ ρ κi A ∧ H D = some (.lst acc) ∧ G D = none ∧ Reps C G acc ysa ∧ acc.length ≤ i ∧ compGo vs tgd ft fe ρ (ds.drop i) κi = .ok rest κe ∧ ys = ysa ++ rest
      refine ⟨fun i m H => m = ds.length - i ∧ i ≤ ds.length ∧ Pv i H, ⟨ds.length, by simp, Nat.zero_le _, G1, κ1, [], [], ys, ?_, ?_, upd_same, gD, .nil, Nat.zero_le _, by rw [List.drop_zero]; exact ho, rfl⟩, ?_⟩
      · refine ⟨Sub.rfl, fun a o h _ => by rw [upd_ne (ne_of_none h hD)]; exact h, fun a h => ?_, fun a h _ _ => h, fun _ h => .inl h⟩
        by_cases q : a = D
        · rw [q, upd_same]; simp
        · rw [upd_ne q]; exact h
      · have al : Sub G1 (upd H1 D (.lst [])) := fun a o h => by
          rw [upd_ne (ne_of_none h gD)]; exact e1.gh a o h
        refine ⟨al, e1.sl, ?_, e1.ln⟩
        have ce := e1.ce
        cases κ1 with
        | none => exact ce
        | some xs =>
          obtain ⟨c, a, ws, h1, h2, h3, h4⟩ := ce
          exact ⟨c, a, ws, h1, h2, by rw [upd_ne (ne_of_none h3 hD)]; exact h3, h4⟩
      rintro i m H2 ⟨rfl, hi2, G2, κ2, acc, ysa, rest, go2, e2, hD2, gD2, racc, hacc, hrun, hys⟩
      obtain ⟨J1, J2⟩ := hJ G2 H2 go2.gg e2.gh
      by_cases hlt : i < ds.length
      · obtain ⟨j1, j2⟩ := J1 i ds[i] (List.getElem?_eq_getElem hlt)
        refine .inr ⟨j1, Pv (i + 1), fun H' p => ⟨ds.length - (i + 1), by omega, rfl, hlt, p⟩, fun x H3 hy => ?_⟩
        obtain ⟨G3, al3, rx⟩ := j2 x H3 hy
        have e3 := e2.al al3
        have hD3 : H3 D = some (.lst acc) := al3.hh _ _ hD2
        have gD3 : G3 D = none := al3.fr D gD2 (by rw [hD2]; simp)
        rw [List.drop_eq_getElem_cons hlt] at hrun
        unfold compGo at hrun
        cases htg : tgd ds[i] (wipeD ρ vs) with
        | none => rw [htg] at hrun; cases hrun
        | some ρ1 =>
          rw [htg] at hrun
          dsimp only at hrun
          refine hg.run (wipe σ vs) (wipeD ρ vs) ρ1 κ2 G3 H3 A x ds[i] _ (e3.wipe hcs) rx htg fun σ2 e4 l4 s4 => ?_
          refine ⟨wipe_same (l4.trans (wipe_length σ vs)) (fun j hj => (s4 j hj).trans (wipe_out hj)), ?_⟩
          -- back to the def's own slots
          have back : ∀ {G' H' : Hp} {κ' : Kp}, Go G3 H3 A G' H' A → EV C G' H' cs σ2 ρ1 κ' A → EV C G' H' cs σ ρ κ' A := fun {G' H' κ'} g e' => by
            refine ⟨e'.gh, fun j z hz => ?_, ?_, e.ln⟩
            · obtain ⟨v, h1, h2⟩ := e3.sl j z hz
              exact ⟨v, h1, h2.mono g.gg⟩
            · have ce := e'.ce
              cases κ' with
              | none => exact ce
              | some xs =>
                obtain ⟨c, a, ws, h1, h2, h3⟩ := ce
                refine ⟨c, a, ws, h1, ?_, h3⟩
                have hcv := hcs c h1
                rw [s4 c hcv, wipe_out hcv] at h2
                exact h2
          have keepD : ∀ {G' H' : Hp}, Go G3 H3 A G' H' A → H' D = some (.lst acc) ∧ G' D = none := fun {G' H'} g => ⟨g.hh _ _ hD3 nA, g.fr D gD3 (by rw [hD3]; simp) nA⟩
          cases hft : ft ρ1 κ2 with
          | bad => rw [hft] at hrun; cases hrun
          | er x' κ' => rw [hft] at hrun; cases hrun
          | ok b κ3 =>
            rw [hft] at hrun
            refine ht.run σ2 ρ1 κ2 G3 H3 A _ e4 ?_
            rw [hft]
            intro G4 H4 go4 e5
            cases b with
            | false =>
              simp only [Bool.false_eq_true, if_false]
              dsimp only at hrun
              obtain ⟨d1, d2⟩ := keepD go4
              exact ⟨G4, κ3, acc, ysa, rest, go2.trans ((al3.go A).trans go4), back go4 e5, d1, d2, (racc.mono al3.gg).mono go4.gg, by omega, hrun, hys⟩
            | true =>
              simp only [if_true]
              dsimp only at hrun
              cases hfe : fe ρ1 κ3 with
              | bad => rw [hfe] at hrun; cases hrun
              | er x' κ' => rw [hfe] at hrun; cases hrun
              | ok y κ4 =>
                rw [hfe] at hrun
                dsimp only at hrun
                cases hre : compGo vs tgd ft fe ρ (ds.drop (i + 1)) κ4 with
                | bad => rw [hre] at hrun; cases hrun
                | er x' κ' => rw [hre] at hrun; cases hrun
                | ok rest' κ5 =>
                  rw [hre] at hrun
                  cases hrun
                  refine he.run σ2 ρ1 κ3 G4 H4 A _ e5 ?_
                  rw [hfe]
                  intro G5 H5 go5 e6 v rv
                  have go35 := go4.trans go5
                  obtain ⟨d1, d2⟩ := keepD go35
                  have e7 := back go35 e6
                  refine ⟨acc, d1, by omega, G5, κ4, acc ++ [v], ysa ++ [y], rest', ?_, ?_, upd_same, d2, ((racc.mono al3.gg).mono go35.gg).append (.cons rv .nil), by rw [List.length_append, List.length_singleton]; omega, hre, by rw [List.append_assoc]; exact hys⟩
                  · have gg := go2.trans ((al3.go A).trans go35)
                    have hDn : H1 D = none := hD
                    refine ⟨gg.gg, fun a o h n => ?_, fun a h => ?_, gg.fr, gg.mm⟩
                    · rw [upd_ne (ne_of_none h hDn)]; exact gg.hh a o h n
                    · by_cases q : a = D
                      · rw [q, upd_same]; simp
                      · rw [upd_ne q]; exact gg.nn a h
                  · refine ⟨fun a o h => ?_, e7.sl, ?_, e7.ln⟩
                    · rw [upd_ne (ne_of_none h d2)]; exact e7.gh a o h
                    · have ce := e7.ce
                      cases κ4 with
                      | none => exact ce
                      | some xs =>
                        obtain ⟨c, a, ws, h1, h2, h3, h4, h5, h6, h7⟩ := ce
                        have ne : a ≠ D := fun q => nA (by rw [← q]; exact (h7 a).mpr rfl)
                        exact ⟨c, a, ws, h1, h2, by rw [upd_ne ne]; exact h3, h4, h5, h6, h7⟩
      · have ei : i = ds.length := by omega
        subst ei
        refine .inl ⟨J2, ?_⟩
        rw [List.drop_length] at hrun
        cases hrun
        rw [List.append_nil] at hys
        subst hys
        -- the state without the list
        have dn : ∀ b, b ≠ D → del H2 D b = H2 b := fun b q => del_ne q
        have gg : Go G1 H1 A G2 (del H2 D) A := by
          refine ⟨go2.gg, fun a o h m => ?_, fun a n => ?_, go2.fr, go2.mm⟩
          · rw [dn a (ne_of_none h hD)]; exact go2.hh a o h m
          · have q : a ≠ D := fun q => n (by rw [q]; exact hD)
            rw [dn a q]; exact go2.nn a n
        refine k2 _ _ gg ⟨fun a o h => ?_, e2.sl, ?_, e2.ln⟩ D acc H2 del_same (fun b q => (dn b q).symm) hD2 (by omega) racc
        · rw [dn a (ne_of_none h gD2)]; exact e2.gh a o h
        · have ce := e2.ce
          cases κe with
          | none => exact ce
          | some xs =>
            obtain ⟨c, a, ws, h1, h2, h3, h4, h5, h6, h7⟩ := ce
            have ne : a ≠ D := fun q => nA (by rw [← q]; exact (h7 a).mpr rfl)
            exact ⟨c, a, ws, h1, h2, by rw [dn a ne]; exact h3, h4, h5, h6, h7⟩
  · rw [if_neg hl] at k1
    exact (show False from k1).elim
end
end G
namespace G
open PySem PySem.Spec PyProof.Rows L2 RZ
section
variable {X : Cx} {cs : Option Nat} {W : WX} {elt tg iter c : Expr} {scope : Scope} {own : List (Str × Nat)} {pos : Pos} {tgd : Tg} {fs : M (List D)} {ft : M Bool} {fe : M D}
/-- what a comprehension gives, whatever it is used for -/
structure LX (X : Cx) (cs : Option Nat) (W : WX) (tg iter : Expr) (ifs : List Expr) (elt : Expr) (scope : Scope) (own : List (Str × Nat)) (f : M (List D)) : Prop where
  ex : ∃ wi g tt te, PI X tg iter wi ∧ (∀ (s : Shared) (H : Hp) (C : Addr) (cl : List (Str × Addr)) (fp : List Addr), PG (X.blk s H scope (compEnvC scope cl C X.env) fp) tg g) ∧
    (∀ (s : Shared) (H : Hp) (C : Addr) (cl : List (Str × Addr)) (fp : List Addr), PTs (X.blk s H scope (compEnvC scope cl C X.env) fp) ifs tt) ∧ (∀ (s : Shared) (H : Hp) (C : Addr) (cl : List (Str × Addr)) (fp : List Addr), PE (X.blk s H scope (compEnvC scope cl C X.env) fp) elt te) ∧
    FXt (Cx.C X) cs W (tLc wi g tt te (own.map (·.2))) f
abbrev BI : Type := Shared × Hp × Addr × List (Str × Addr) × List Addr
abbrev blkOf (X : Cx) (scope : Scope) (i : BI) : Cx := X.blk i.1 i.2.1 scope (compEnvC scope i.2.2.2.1 i.2.2.1 X.env) i.2.2.2.2
theorem own_cs {own : List (Str × Nat)} (h : (own.map (·.2)).all (csOk cs) = true) : ∀ c, cs = some c → c ∉ own.map (·.2) := fun c e hm => csOk_ne (List.all_eq_true.mp h c hm) e rfl
theorem lx_0 (hcs : (own.map (·.2)).all (csOk cs) = true) (hi : IX X cs W tg iter fs) (hg : ∀ i : BI, GX (blkOf X scope i) cs (own.map (·.2)) tg tgd) (he : ∀ i : BI, PX (blkOf X scope i) cs W0 elt fe) :
    LX X cs W tg iter [] elt scope own (eComp (own.map (·.2)) tgd fs mTrue fe) := by
  obtain ⟨wi, p1, r1⟩ := hi
  obtain ⟨g, p2, r2⟩ := blk_gx (Xs := fun i : BI => blkOf X scope i) (C := Cx.C X) hg
  obtain ⟨te, p3, r3⟩ := blk_px (Xs := fun i : BI => blkOf X scope i) (C := Cx.C X) he
  refine ⟨wi, g, tYes, te, p1, fun s H C cl fp => p2 (s, H, C, cl, fp), fun s H C cl fp => pts_nil, fun s H C cl fp => p3 (s, H, C, cl, fp), comp_run (own_cs hcs) r1 r2 ⟨fun σ ρ κ G H A Q e k => k G H Go.rfl e⟩ r3⟩
theorem lx_1 (hcs : (own.map (·.2)).all (csOk cs) = true) (hi : IX X cs W tg iter fs) (hg : ∀ i : BI, GX (blkOf X scope i) cs (own.map (·.2)) tg tgd) (ht : ∀ i : BI, TX (blkOf X scope i) cs W0 c ft) (he : ∀ i : BI, PX (blkOf X scope i) cs W0 elt fe) :
    LX X cs W tg iter [c] elt scope own (eComp (own.map (·.2)) tgd fs ft fe) := by
  obtain ⟨wi, p1, r1⟩ := hi
  obtain ⟨g, p2, r2⟩ := blk_gx (Xs := fun i : BI => blkOf X scope i) (C := Cx.C X) hg
  obtain ⟨te, p3, r3⟩ := blk_px (Xs := fun i : BI => blkOf X scope i) (C := Cx.C X) he
  obtain ⟨tt, p4, r4⟩ := blk_tx (Xs := fun i : BI => blkOf X scope i) (C := Cx.C X) ht
  exact ⟨wi, g, tt, te, p1, fun s H C cl fp => p2 (s, H, C, cl, fp), fun s H C cl fp => pts_one (p4 (s, H, C, cl, fp)), fun s H C cl fp => p3 (s, H, C, cl, fp), comp_run (own_cs hcs) r1 r2 r4 r3⟩
theorem px_lc {ifs : List Expr} {f : M (List D)} (h : LX X cs W tg iter ifs elt scope own f) (ok : BlkOk X.N X.env.scope scope own) (nd : X.N.Nodup) (hc : X.calm = true) (hs : ∀ x, foldedSetIterable iter X.env x = pure x := by intro _; rfl) :
    PX X cs W (.ListComp elt [⟨tg, iter, ifs, 0⟩] scope pos) (eLst f) := by
  obtain ⟨wi, g, tt, te, h1, h2, h3, h4, h5⟩ := h.ex
  exact ⟨_, pe_lc hc nd h1 ok h2 h3 h4 hs, fx_px h5⟩
end
end G

set_option Elab.async false
set_option linter.all false
set_option maxRecDepth 100000
/-! Statements: slots that hold data, slots that hold lists of the def's own. -/
namespace G
open PySem PySem.Spec PyProof.Rows L2 RZ
mutual
/-- a list of the def's own, its own lists within; F: their addresses -/
inductive Own (C : KM) (G H : Hp) : V → D → List Addr → Prop
  | rep {v : V} {d : D} (h : Rep C G v d) : Own C G H v d []
  | lst {a : Addr} {vs : List V} {ds : List D} {F : List Addr} (h : H a = some (.lst vs)) (z : vs.length ≤ sizeLine) (g : G a = none) (t : Owns C G H vs ds F) (n : a ∉ F) : Own C G H (.ref a) (.lst ds) (a :: F)
inductive Owns (C : KM) (G H : Hp) : List V → List D → List Addr → Prop
  | nil : Owns C G H [] [] []
  | cons {v : V} {d : D} {vs : List V} {ds : List D} {F F' : List Addr} (h : Own C G H v d F) (t : Owns C G H vs ds F') (n : ∀ a ∈ F, a ∉ F') : Owns C G H (v :: vs) (d :: ds) (F ++ F')
end
mutual
theorem Own.mono {C : KM} {G H G' H' : Hp} (s : Sub G G') : ∀ {d : D} {v : V} {F : List Addr}, Own C G H v d F → (∀ a ∈ F, H' a = H a ∧ G' a = none) → Own C G' H' v d F
  | d, v, F, h, k => by
    cases h with
    | rep h => exact .rep (h.mono s)
    | lst h z g t n =>
      obtain ⟨k1, k2⟩ := k _ List.mem_cons_self
      exact .lst (k1.trans h) z k2 (Owns.mono s t fun a ha => k a (List.mem_cons_of_mem _ ha)) n
theorem Owns.mono {C : KM} {G H G' H' : Hp} (s : Sub G G') : ∀ {ds : List D} {vs : List V} {F : List Addr}, Owns C G H vs ds F → (∀ a ∈ F, H' a = H a ∧ G' a = none) → Owns C G' H' vs ds F
  | ds, vs, F, h, k => by
    cases h with
    | nil => exact .nil
    | cons h t n => exact .cons (Own.mono s h fun a ha => k a (List.mem_append_left _ ha)) (Owns.mono s t fun a ha => k a (List.mem_append_right _ ha)) n
end
mutual
/-- let stand, it is plain data -/
theorem Own.fix {C : KM} {G H G' : Hp} (s : Sub G G') : ∀ {d : D} {v : V} {F : List Addr}, Own C G H v d F → (∀ a ∈ F, G' a = H a) → Rep C G' v d
  | d, v, F, h, k => by
    cases h with
    | rep h => exact h.mono s
    | lst h z g t n => exact .lst ((k _ List.mem_cons_self).trans h) z (Owns.fix s t fun a ha => k a (List.mem_cons_of_mem _ ha))
theorem Owns.fix {C : KM} {G H G' : Hp} (s : Sub G G') : ∀ {ds : List D} {vs : List V} {F : List Addr}, Owns C G H vs ds F → (∀ a ∈ F, G' a = H a) → Reps C G' vs ds
  | ds, vs, F, h, k => by
    cases h with
    | nil => exact .nil
    | cons h t n => exact .cons (Own.fix s h fun a ha => k a (List.mem_append_left _ ha)) (Owns.fix s t fun a ha => k a (List.mem_append_right _ ha))
end
theorem Owns.flat {C : KM} {G H : Hp} {ds : List D} {vs : List V} (h : Owns C G H vs ds []) : Reps C G vs ds := Owns.fix Sub.rfl h fun _ ha => nomatch ha
theorem Owns.of {C : KM} {G H : Hp} : ∀ {ds : List D} {vs : List V}, Reps C G vs ds → Owns C G H vs ds []
  | [], _, h => by cases h; exact .nil
  | d :: ds, _, h => by
    cases h with
    | cons h t => exact .cons (F := []) (F' := []) (.rep h) (Owns.of t) fun _ ha => nomatch ha
theorem Owns.snoc {C : KM} {G H : Hp} {v : V} {d : D} (r : Rep C G v d) : ∀ {ds : List D} {vs : List V} {F : List Addr}, Owns C G H vs ds F → Owns C G H (vs ++ [v]) (ds ++ [d]) F
  | _, _, _, .nil => .cons (F := []) (F' := []) (.rep r) .nil fun _ ha => nomatch ha
  | _, _, _, .cons h t n => .cons h (Owns.snoc r t) n
theorem Owns.length {C : KM} {G H : Hp} : ∀ {ds : List D} {vs : List V} {F : List Addr}, Owns C G H vs ds F → vs.length = ds.length
  | _, _, _, .nil => rfl
  | _, _, _, .cons h t n => by simp only [List.length_cons, Owns.length t]
/-- an item made plain data -/
theorem Owns.set {C : KM} {G H : Hp} {v : V} {d : D} (r : Rep C G v d) : ∀ {ds : List D} {vs : List V} {F : List Addr} (j : Nat), Owns C G H vs ds F → ∃ F', Owns C G H (vs.set j v) (ds.set j d) F' ∧ ∀ a ∈ F', a ∈ F
  | _, _, _, j, .nil => ⟨[], .nil, fun _ h => h⟩
  | _, _, _, 0, .cons (F' := F') h t n => ⟨F', .cons (F := []) (.rep r) t (fun _ ha => nomatch ha), fun a ha => List.mem_append_right _ ha⟩
  | _, _, _, j + 1, .cons (F := F) h t n => by
    obtain ⟨F2, o, k⟩ := Owns.set r j t
    refine ⟨F ++ F2, .cons h o fun a ha hb => n a ha (k a hb), fun a ha => ?_⟩
    rcases List.mem_append.mp ha with q | q
    · exact List.mem_append_left _ q
    · exact List.mem_append_right _ (k a q)

/-! ### the state of a body -/
/-- slots of data, slots of own lists -/
structure Ss where
  ρ : Sd
  ω : Sd
def Mf (ft : Nat → List Addr) : Addr → Prop := fun a => ∃ i, a ∈ ft i
structure SV (C : KM) (G H : Hp) (cs : Option Nat) (σ : St) (s : Ss) (ft : Nat → List Addr) : Prop where
  gh : Sub G H
  sl : ∀ (i : Nat) (d : D), s.ρ[i]? = some (some d) → ∃ v, σ[i]? = some (some v) ∧ Rep C G v d
  ln : σ.length = s.ρ.length
  ow : ∀ (i : Nat) (d : D), s.ω[i]? = some (some d) → ∃ a, σ[i]? = some (some (.ref a)) ∧ Own C G H (.ref a) d (ft i) ∧ ft i ≠ []
  dj : ∀ i j a, a ∈ ft i → a ∈ ft j → i = j
  gn : ∀ i a, a ∈ ft i → G a = none ∧ H a ≠ none
  c1 : ∀ c, cs = some c → (ft c).length ≤ 1
  lo : s.ω.length = s.ρ.length
  em : ∀ i, (∀ d, s.ω[i]? ≠ some (some d)) → ft i = []
/-- the cell of the state -/
def Ss.cell (cs : Option Nat) (R : List Nat) (s : Ss) : Kp := match cs with
  | none => none
  | some c => if R.contains c = true then none else match s.ω[c]? with
    | some (some (.lst ds)) => some ds
    | _ => none
/-- the data slots with the own lists of R -/
def mrg : List Nat → Sd → Sd → Sd
  | [], ρ, _ => ρ
  | i :: R, ρ, ω => match ω[i]? with
    | some (some d) => (mrg R ρ ω).set i (some d)
    | _ => mrg R ρ ω
/-- the cell's content behind an expression -/
def Ss.put (cs : Option Nat) (κ : Kp) (s : Ss) : Ss := match cs, κ with
  | some c, some ds => { s with ω := s.ω.set c (some (.lst ds)) }
  | _, _ => s
mutual
/-- no list within -/
def D.free : D → Bool
  | .lst _ => false
  | .lsf _ => false
  | .dct _ => false
  | .tup ds => D.frees ds
  | _ => true
def D.frees : List D → Bool
  | [] => true
  | d :: r => d.free && D.frees r
end
def Kp.free : Kp → Bool
  | none => true
  | some ds => D.frees ds
def Exn.free (x : Exn) : Bool := D.frees (x.fs.map (·.2))
/-- an expression of a statement: the own lists of R are read in it -/
def eR (cs : Option Nat) (R : List Nat) {α : Type} (fr : α → Bool) (f : M α) : Ss → Out α := fun s => match R with
  | [] => f s.ρ (s.cell cs [])
  | i :: r => match f (mrg (i :: r) s.ρ s.ω) (s.cell cs (i :: r)) with
    | .ok a κ => if fr a && κ.free then .ok a κ else .bad
    | .er x κ => if x.free && κ.free then .er x κ else .bad
    | .bad => .bad
mutual
/-- data without lists stand where the lists are let go -/
theorem Rep.go {C : KM} {G G' : Hp} (k : ∀ a xs, SqT C.K G a xs → SqT C.K G' a xs) : ∀ {d : D} {v : V}, Rep C G v d → d.free = true → Rep C G' v d
  | .non, _, h, _ => by cases h; exact .non
  | .bl _, _, h, _ => by cases h; exact .bl _
  | .int _, _, h, _ => by cases h; exact .int _
  | .str _, _, h, _ => by cases h; exact .str _
  | .lst ds, _, h, e => by cases e
  | .lsf ds, _, h, e => by cases e
  | .dct ds, _, h, e => by cases e
  | .tup ds, _, h, e => by
    cases h with
    | tup h z r => exact .tup (k _ _ h) z (Reps.go k r e)
  | .fn _, _, h, _ => by
    cases h with
    | fn h => exact .fn h
  | .cel, _, h, _ => by cases h
theorem Reps.go {C : KM} {G G' : Hp} (k : ∀ a xs, SqT C.K G a xs → SqT C.K G' a xs) : ∀ {ds : List D} {vs : List V}, Reps C G vs ds → D.frees ds = true → Reps C G' vs ds
  | [], _, h, _ => by cases h; exact .nil
  | d :: ds, _, h, e => by
    cases h with
    | cons h t =>
      have e' : (d.free && D.frees ds) = true := e
      obtain ⟨e1, e2⟩ := Bool.and_eq_true_iff.mp e'
      exact .cons (Rep.go k h e1) (Reps.go k t e2)
end
section
variable {C : KM} {cs : Option Nat} {W : WX} {σ : St} {s : Ss} {G H : Hp} {ft : Nat → List Addr}
/-- the cell keeps its address -/
def CF (cs : Option Nat) (ft ft' : Nat → List Addr) : Prop := ∀ c, cs = some c → ft c ≠ [] → ft' c = ft c
theorem CF.rfl : CF cs ft ft := fun _ _ _ => _root_.rfl
theorem CF.trans {ft' ft'' : Nat → List Addr} (a : CF cs ft ft') (b : CF cs ft' ft'') : CF cs ft ft'' := fun c e n => (b c e (by rw [a c e n]; exact n)).trans (a c e n)
open Classical in
/-- the own lists of R let stand for a while -/
noncomputable def Gx (G H : Hp) (ft : Nat → List Addr) (R : List Nat) : Hp := fun a => if ∃ i ∈ R, a ∈ ft i then H a else G a
open Classical in
noncomputable def Gy (G : Hp) (ft : Nat → List Addr) (R : List Nat) : Hp := fun a => if ∃ i ∈ R, a ∈ ft i then none else G a
theorem mrg_some {ρ ω : Sd} {i : Nat} {d : D} : ∀ {R : List Nat}, (mrg R ρ ω)[i]? = some (some d) → ρ[i]? = some (some d) ∨ (i ∈ R ∧ ω[i]? = some (some d))
  | [], h => .inl h
  | j :: R, h => by
    unfold mrg at h
    split at h
    · rename_i e he
      by_cases hj : j = i
      · subst hj
        by_cases hl : j < (mrg R ρ ω).length
        · rw [List.getElem?_set_self hl] at h
          cases h
          exact .inr ⟨List.mem_cons_self, he⟩
        · rw [List.getElem?_eq_none (by simpa using hl)] at h; cases h
      · rw [List.getElem?_set_ne hj] at h
        rcases mrg_some h with q | ⟨q1, q2⟩
        · exact .inl q
        · exact .inr ⟨List.mem_cons_of_mem _ q1, q2⟩
    · rcases mrg_some h with q | ⟨q1, q2⟩
      · exact .inl q
      · exact .inr ⟨List.mem_cons_of_mem _ q1, q2⟩
theorem mrg_length {ρ ω : Sd} : ∀ R : List Nat, (mrg R ρ ω).length = ρ.length
  | [] => rfl
  | j :: R => by
    unfold mrg
    split
    · rw [List.length_set]; exact mrg_length R
    · exact mrg_length R
/-- the addresses of the cell, where it is not read -/
def cA (cs : Option Nat) (R : List Nat) (ft : Nat → List Addr) : Addr → Prop := fun a => ∃ c, cs = some c ∧ R.contains c = false ∧ a ∈ ft c
theorem SV.cell_none (v : SV C G H cs σ s ft) {R : List Nat} (h : s.cell cs R = none) : ∀ a, ¬ cA cs R ft a := by
  rintro a ⟨c, rfl, hR, ha⟩
  unfold Ss.cell at h
  simp only [hR, Bool.false_eq_true, if_false] at h
  split at h
  · cases h
  · rename_i hn
    by_cases q : ∃ d, s.ω[c]? = some (some d)
    · obtain ⟨d, hd⟩ := q
      obtain ⟨b, h1, h2, h3⟩ := v.ow c d hd
      generalize hF : ft c = F at h2 h3
      cases h2 with
      | rep h => exact absurd _root_.rfl h3
      | lst h z g t n => exact hn _ hd
    · rw [v.em c fun d e => q ⟨d, e⟩] at ha
      cases ha
/-- into an expression -/
theorem SV.ev (v : SV C G H cs σ s ft) (R : List Nat) : EV C (Gx G H ft R) H cs σ (mrg R s.ρ s.ω) (s.cell cs R) (cA cs R ft) := by
  have sg : Sub G (Gx G H ft R) := fun a o e => by
    unfold Gx
    split
    · rename_i h
      obtain ⟨i, _, hi⟩ := h
      rw [(v.gn i a hi).1] at e
      cases e
    · exact e
  have inn : ∀ {i : Nat} {a : Addr}, i ∈ R → a ∈ ft i → Gx G H ft R a = H a := fun {i a} h1 h2 => by
    unfold Gx
    rw [if_pos ⟨i, h1, h2⟩]
  refine ⟨fun a o e => ?_, fun i d e => ?_, ?_, by rw [mrg_length]; exact v.ln⟩
  · unfold Gx at e
    split at e
    · exact e
    · exact v.gh a o e
  · rcases mrg_some e with q | ⟨q1, q2⟩
    · obtain ⟨w, h1, h2⟩ := v.sl i d q
      exact ⟨w, h1, h2.mono sg⟩
    · obtain ⟨a, h1, h2, h3⟩ := v.ow i d q2
      exact ⟨_, h1, Own.fix sg h2 fun b hb => inn q1 hb⟩
  · cases hk : s.cell cs R with
    | none => exact v.cell_none hk
    | some ds =>
      unfold Ss.cell at hk
      split at hk
      · cases hk
      · rename_i c
        split at hk
        · cases hk
        · rename_i hR
          split at hk
          · rename_i ds' hd
            cases hk
            obtain ⟨a, h1, h2, h3⟩ := v.ow c _ hd
            generalize hF : ft c = F at h2 h3
            cases h2 with
            | rep h => exact absurd _root_.rfl h3
            | lst h z g t n =>
              rename_i vs F'
              have l1 := v.c1 c _root_.rfl
              rw [hF] at l1
              have : F' = [] := by
                cases F' with
                | nil => rfl
                | cons x y => simp at l1
              subst this
              refine ⟨c, a, vs, _root_.rfl, h1, h, z, (Owns.flat t).mono sg, ?_, fun b => ⟨fun hb => ?_, fun hb => ?_⟩⟩
              · unfold Gx
                rw [if_neg]
                · exact g
                · rintro ⟨i, hi, ha⟩
                  have e := v.dj i c a ha (by rw [hF]; exact List.mem_cons_self)
                  subst e
                  exact hR (List.contains_iff_mem.mpr hi)
              · obtain ⟨c', e1, _, e3⟩ := hb
                cases e1
                rw [hF] at e3
                simpa using e3
              · subst hb
                exact ⟨c, _root_.rfl, by simpa using hR, by rw [hF]; exact List.mem_cons_self⟩
          · cases hk
mutual
theorem Own.isl : ∀ {d : D} {v : V} {F : List Addr}, Own C G H v d F → ∀ a ∈ F, ∃ xs, H a = some (.lst xs)
  | d, v, F, h, a, ha => by
    cases h with
    | rep h => cases ha
    | lst h z g t n =>
      rcases List.mem_cons.mp ha with q | q
      · subst q; exact ⟨_, h⟩
      · exact Owns.isl t a q
theorem Owns.isl : ∀ {ds : List D} {vs : List V} {F : List Addr}, Owns C G H vs ds F → ∀ a ∈ F, ∃ xs, H a = some (.lst xs)
  | ds, vs, F, h, a, ha => by
    cases h with
    | nil => cases ha
    | cons h t n =>
      rcases List.mem_append.mp ha with q | q
      · exact Own.isl h a q
      · exact Owns.isl t a q
end
theorem SV.isl (v : SV C G H cs σ s ft) {i : Nat} {a : Addr} (ha : a ∈ ft i) : ∃ xs, H a = some (.lst xs) := by
  by_cases q : ∃ d, s.ω[i]? = some (some d)
  · obtain ⟨d, hd⟩ := q
    obtain ⟨b, _, h2, _⟩ := v.ow i d hd
    exact h2.isl a ha
  · rw [v.em i fun d e => q ⟨d, e⟩] at ha
    cases ha
theorem Gy_nil {G : Hp} : Gy G ft [] = G := by
  funext a
  unfold Gy
  rw [if_neg]
  rintro ⟨i, hi, _⟩
  cases hi
theorem put_ρ {κ : Kp} : (s.put cs κ).ρ = s.ρ := by
  unfold Ss.put
  split <;> rfl
/-- out of an expression -/
theorem SV.out (v : SV C G H cs σ s ft) {R : List Nat} {G' H' : Hp} {κ : Kp} (g : Go (Gx G H ft R) H (cA cs R ft) G' H' (cA cs R ft)) (e : EV C G' H' cs σ (mrg R s.ρ s.ω) κ (cA cs R ft)) (fr : R = [] ∨ κ.free = true) :
    Go G H (Mf ft) (Gy G' ft R) H' (Mf ft) ∧ SV C (Gy G' ft R) H' cs σ (s.put cs κ) ft ∧ ∀ a xs, SqT C.K G' a xs → SqT C.K (Gy G' ft R) a xs := by
  have sg : Sub G (Gx G H ft R) := fun a o e => by
    unfold Gx
    split
    · rename_i h
      obtain ⟨i, _, hi⟩ := h
      rw [(v.gn i a hi).1] at e
      cases e
    · exact e
  have inR : ∀ {i : Nat} {a : Addr}, i ∈ R → a ∈ ft i → Gx G H ft R a = H a := fun {i a} h1 h2 => by
    unfold Gx
    rw [if_pos ⟨i, h1, h2⟩]
  have noR : ∀ {a : Addr}, (¬ ∃ i ∈ R, a ∈ ft i) → Gx G H ft R a = G a := fun {a} h => by
    unfold Gx
    rw [if_neg h]
  have yR : ∀ {a : Addr}, (∃ i ∈ R, a ∈ ft i) → Gy G' ft R a = none := fun {a} h => by
    unfold Gy
    rw [if_pos h]
  have yN : ∀ {a : Addr}, (¬ ∃ i ∈ R, a ∈ ft i) → Gy G' ft R a = G' a := fun {a} h => by
    unfold Gy
    rw [if_neg h]
  have yle : Sub (Gy G' ft R) G' := fun a o h => by
    by_cases q : ∃ i ∈ R, a ∈ ft i
    · rw [yR q] at h; cases h
    · rw [yN q] at h; exact h
  have gy : Sub G (Gy G' ft R) := fun a o h => by
    have q : ¬ ∃ i ∈ R, a ∈ ft i := fun ⟨i, _, hi⟩ => by
      rw [(v.gn i a hi).1] at h
      cases h
    rw [yN q]
    exact g.gg a o (sg a o h)
  -- an own list that is not the cell in reach
  have keep : ∀ i a, a ∈ ft i → ¬ cA cs R ft a → H' a = H a ∧ Gy G' ft R a = none := fun i a ha hc => by
    have hn := (v.gn i a ha).2
    refine ⟨?_, ?_⟩
    · cases q : H a with
      | none => exact absurd q hn
      | some o => exact g.hh a o q hc
    · by_cases q : ∃ i ∈ R, a ∈ ft i
      · exact yR q
      · rw [yN q]
        exact g.fr a ((noR q).trans (v.gn i a ha).1) hn hc
  have tups : ∀ a xs, SqT C.K G' a xs → SqT C.K (Gy G' ft R) a xs := fun a xs h => by
    have ne : ∀ o, G' a = some o → (∀ ys, o ≠ .lst ys) → Gy G' ft R a = some o := fun o ho hl => by
      by_cases q : ∃ i ∈ R, a ∈ ft i
      · obtain ⟨i, hi, ha⟩ := q
        obtain ⟨ys, hy⟩ := v.isl ha
        have e1 := g.gg a _ ((inR hi ha).trans hy)
        rw [ho] at e1
        exact absurd (Option.some.inj e1) (hl ys)
      · rw [yN q]; exact ho
    rcases h with (h | ⟨o, h⟩) | h
    · exact .inl (.inl (ne _ h fun ys z => by cases z))
    · exact .inl (.inr ⟨o, ne _ h fun ys z => by cases z⟩)
    · exact .inr h
  have cellR : ∀ {ds : List D} {vs : List V}, κ = some ds → Reps C G' vs ds → Reps C (Gy G' ft R) vs ds := fun {ds vs} hk r => by
    rcases fr with q | q
    · subst q
      rw [Gy_nil]
      exact r
    · rw [hk] at q
      exact r.go tups q
  refine ⟨⟨gy, fun a o h m => g.hh a o h fun ⟨c, _, _, hc⟩ => m ⟨c, hc⟩, g.nn, fun a h n m => ?_, fun a m => .inl m⟩, ?_, tups⟩
  · have q : ¬ ∃ i ∈ R, a ∈ ft i := fun ⟨i, _, hi⟩ => m ⟨i, hi⟩
    rw [yN q]
    exact g.fr a ((noR q).trans h) n fun ⟨c, _, _, hc⟩ => m ⟨c, hc⟩
  · -- the slots
    have pure_sl : ∀ (i : Nat) (d : D), s.ρ[i]? = some (some d) → ∃ w, σ[i]? = some (some w) ∧ Rep C (Gy G' ft R) w d := fun i d hd => by
      obtain ⟨w, h1, h2⟩ := v.sl i d hd
      exact ⟨w, h1, h2.mono gy⟩
    by_cases hcell : ∃ a, cA cs R ft a
    · obtain ⟨a, c, hc, hR, ha⟩ := hcell
      have ce := e.ce
      cases κ with
      | none => exact absurd ⟨c, hc, hR, ha⟩ (ce a)
      | some ds =>
        obtain ⟨c', a', vs, c1, c2, c3, c4, c5, c6, c7⟩ := ce
        rw [hc] at c1
        cases c1
        have ea : a = a' := (c7 a).mp ⟨c, hc, hR, ha⟩
        subst ea
        have fc : ft c = [a] := by
          have l1 := v.c1 c hc
          match hF : ft c with
          | [] => rw [hF] at ha; cases ha
          | [b] =>
            rw [hF] at ha
            have : a = b := by simpa using ha
            rw [this]
          | _ :: _ :: _ => rw [hF] at l1; simp at l1
        have cl : c < s.ω.length := by
          by_cases q : c < s.ω.length
          · exact q
          · have : ft c = [] := v.em c fun d z => by rw [List.getElem?_eq_none (by omega)] at z; cases z
            rw [this] at fc; cases fc
        have ep : s.put cs (some ds) = { s with ω := s.ω.set c (some (.lst ds)) } := by
          unfold Ss.put
          rw [hc]
        rw [ep]
        have yc : Gy G' ft R a = none := by
          by_cases q : ∃ i ∈ R, a ∈ ft i
          · exact yR q
          · rw [yN q]; exact c6
        refine ⟨fun b o h => e.gh b o (yle b o h), pure_sl, v.ln, fun i d hd => ?_, v.dj, fun i b hb => ?_, v.c1, by simpa using v.lo, fun i hi => ?_⟩
        · by_cases hic : c = i
          · subst hic
            rw [List.getElem?_set_self cl] at hd
            cases hd
            refine ⟨a, c2, ?_, by rw [fc]; simp⟩
            rw [fc]
            exact .lst c3 c4 yc (Owns.of (cellR rfl c5)) (by simp)
          · rw [List.getElem?_set_ne hic] at hd
            obtain ⟨b, h1, h2, h3⟩ := v.ow i d hd
            refine ⟨b, h1, h2.mono gy fun x hx => keep i x hx fun ⟨c2, e1, _, e3⟩ => ?_, h3⟩
            rw [hc] at e1
            cases e1
            exact hic (v.dj _ _ x e3 hx)
        · by_cases hic : i = c
          · subst hic
            rw [fc] at hb
            have : b = a := by simpa using hb
            subst this
            exact ⟨yc, by rw [c3]; simp⟩
          · have k := keep i b hb fun ⟨c2, e1, _, e3⟩ => by
              rw [hc] at e1
              cases e1
              exact hic (v.dj _ _ b hb e3)
            exact ⟨k.2, by rw [k.1]; exact (v.gn i b hb).2⟩
        · by_cases hic : c = i
          · subst hic
            exact absurd (List.getElem?_set_self cl) (hi _)
          · refine v.em i fun d z => hi d ?_
            show (s.ω.set c (some (D.lst ds)))[i]? = _
            rw [List.getElem?_set_ne hic]
            exact z
    · -- no cell in reach: the content is as it was
      have ep : s.put cs κ = s := by
        have ce := e.ce
        cases κ with
        | none => unfold Ss.put; split <;> first | rfl | simp_all
        | some ds =>
          obtain ⟨c', a', vs, c1, c2, c3, c4, c5, c6, c7⟩ := ce
          exact absurd ⟨a', (c7 a').mpr rfl⟩ hcell
      rw [ep]
      refine ⟨fun b o h => e.gh b o (yle b o h), pure_sl, v.ln, fun i d hd => ?_, v.dj, fun i b hb => ?_, v.c1, v.lo, v.em⟩
      · obtain ⟨b, h1, h2, h3⟩ := v.ow i d hd
        exact ⟨b, h1, h2.mono gy fun x hx => keep i x hx fun z => hcell ⟨x, z⟩, h3⟩
      · have k := keep i b hb fun z => hcell ⟨b, z⟩
        exact ⟨k.2, by rw [k.1]; exact (v.gn i b hb).2⟩
end
end G

set_option Elab.async false
set_option linter.all false
set_option maxRecDepth 100000
/-! Statement rules. -/
namespace G
open PySem PySem.Spec PyProof.Rows L2 RZ
/-- how a statement ends -/
inductive Fl where
  | nx (s : Ss) | bk (s : Ss) | ct (s : Ss) | rt (d : D) (s : Ss) | er (x : Exn) (s : Ss) | bad
/-- a state behind another -/
structure Later (C : KM) (cs : Option Nat) (G H : Hp) (ft : Nat → List Addr) (σ' : St) (s' : Ss) (G' H' : Hp) (ft' : Nat → List Addr) : Prop where
  go : Go G H (Mf ft) G' H' (Mf ft')
  cf : CF cs ft ft'
  sv : SV C G' H' cs σ' s' ft'
def FR (C : KM) (cs : Option Nat) (W : WX) (G H : Hp) (ft : Nat → List Addr) (D : Ends) : Fl → Prop
  | .nx s' => ∀ σ' G' H' ft', Later C cs G H ft σ' s' G' H' ft' → D.nx σ' H'
  | .bk s' => ∀ σ' G' H' ft', Later C cs G H ft σ' s' G' H' ft' → D.bk σ' H'
  | .ct s' => ∀ σ' G' H' ft', Later C cs G H ft σ' s' G' H' ft' → D.ct σ' H'
  | .rt d s' => ∀ σ' G' H' ft' v, Later C cs G H ft σ' s' G' H' ft' → Rep C G' v d → D.rt v H'
  | .er x s' => ∀ σ' G' H' ft' cls dd, Later C cs G H ft σ' s' G' H' ft' → ExR C G' H' cls dd x → W cls dd σ' H'
  | .bad => False
section
variable {C : KM} {cs : Option Nat} {W : WX} {σ σ' : St} {s s' : Ss} {G H G' H' G1 H1 : Hp} {ft ft' ft1 : Nat → List Addr} {D : Ends}
theorem Later.rfl (v : SV C G H cs σ s ft) : Later C cs G H ft σ s G H ft := ⟨Go.rfl, CF.rfl, v⟩
theorem Later.trans {σ1 : St} {s1 : Ss} (a : Later C cs G H ft σ1 s1 G1 H1 ft1) (b : Later C cs G1 H1 ft1 σ' s' G' H' ft') : Later C cs G H ft σ' s' G' H' ft' := ⟨a.go.trans b.go, a.cf.trans b.cf, b.sv⟩
theorem FR.shift {σ1 : St} {s1 : Ss} (a : Later C cs G H ft σ1 s1 G1 H1 ft1) {o : Fl} (h : FR C cs W G H ft D o) : FR C cs W G1 H1 ft1 D o := by
  cases o with
  | nx s' => exact fun σ' G' H' ft' b => h σ' G' H' ft' (a.trans b)
  | bk s' => exact fun σ' G' H' ft' b => h σ' G' H' ft' (a.trans b)
  | ct s' => exact fun σ' G' H' ft' b => h σ' G' H' ft' (a.trans b)
  | rt d s' => exact fun σ' G' H' ft' v b r => h σ' G' H' ft' v (a.trans b) r
  | er x s' => exact fun σ' G' H' ft' cls dd b r => h σ' G' H' ft' cls dd (a.trans b) r
  | bad => exact h
end
structure SXt (C : KM) (cs : Option Nat) (W : WX) (t : TS) (b : Ss → Fl) : Prop where
  run : ∀ (σ : St) (s : Ss) (G H : Hp) (ft : Nat → List Addr) (D : Ends), SV C G H cs σ s ft → FR C cs W G H ft D (b s) → t D σ H
def SX (X : Cx) (cs : Option Nat) (W : WX) (st : Stmt) (b : Ss → Fl) : Prop := ∃ t, PS X st t ∧ SXt (Cx.C X) cs W t b
def SXs (X : Cx) (cs : Option Nat) (W : WX) (st : List Stmt) (b : Ss → Fl) : Prop := ∃ t, PSs X st t ∧ SXt (Cx.C X) cs W t b

/-! ### expressions in a statement -/
/-- what is wanted behind an expression of a statement -/
def Use (C : KM) (cs : Option Nat) (W : WX) (σ : St) (s : Ss) (G H : Hp) (ft : Nat → List Addr) {α : Type} (R : α → Hp → Hp → Ss → Prop) : Out α → Prop
  | .ok a κ => ∀ G' H', Later C cs G H ft σ (s.put cs κ) G' H' ft → R a G' H' (s.put cs κ)
  | .er x κ => ∀ G' H' cls dd, Later C cs G H ft σ (s.put cs κ) G' H' ft → ExR C G' H' cls dd x → W cls dd σ H'
  | .bad => False
theorem Gx_nil {G H : Hp} {ft : Nat → List Addr} : Gx G H ft [] = G := by
  funext a
  unfold Gx
  rw [if_neg]
  rintro ⟨i, hi, _⟩
  cases hi
theorem ExR.go {C : KM} {G G' H : Hp} {cls : Value} {dd : Option Addr} {x : Exn} (k : ∀ a xs, SqT C.K G a xs → SqT C.K G' a xs) (h : ExR C G H cls dd x) (f : x.free = true) : ExR C G' H cls dd x := by
  obtain ⟨c, d, fs, h1, h2, h3, h4, h5⟩ := h
  refine ⟨c, d, fs, h1, h2, h3, h4, fun n y e => ?_⟩
  obtain ⟨v, e1, r⟩ := h5 n y e
  refine ⟨v, e1, r.go k ?_⟩
  have : ∀ {l : List (Str × D)}, D.frees (l.map (·.2)) = true → l.lookup n = some y → y.free = true := by
    intro l
    induction l with
    | nil => intro _ e; cases e
    | cons p l ih =>
      intro hf e
      obtain ⟨n', y'⟩ := p
      have hf' : (y'.free && D.frees (l.map (·.2))) = true := hf
      obtain ⟨f1, f2⟩ := Bool.and_eq_true_iff.mp hf'
      rw [List.lookup_cons] at e
      split at e
      · cases e; exact f1
      · exact ih f2 e
  exact this f e
section
variable {C : KM} {cs : Option Nat} {W : WX} {σ : St} {s : Ss} {G H : Hp} {ft : Nat → List Addr} {α : Type} {R : List Nat} {fr : α → Bool} {f : M α}
/-- from a wish about the state to a wish about the expression -/
theorem use_res {RR : α → Hp → Hp → Prop} {R1 : α → Hp → Hp → Ss → Prop} (v : SV C G H cs σ s ft) (h : Use C cs W σ s G H ft R1 (eR cs R fr f s))
    (k : ∀ a G' G2 H' s', (G2 = G' ∨ R ≠ [] ∧ fr a = true ∧ ∀ a xs, SqT C.K G' a xs → SqT C.K G2 a xs) → R1 a G2 H' s' → RR a G' H') :
    Res C cs W σ (mrg R s.ρ s.ω) (Gx G H ft R) H (cA cs R ft) RR (f (mrg R s.ρ s.ω) (s.cell cs R)) := by
  cases R with
  | nil =>
    have h' : Use C cs W σ s G H ft R1 (f (mrg [] s.ρ s.ω) (s.cell cs [])) := h
    revert h'
    generalize f (mrg [] s.ρ s.ω) (s.cell cs []) = o
    intro h'
    cases o with
    | bad => exact h'
    | er x κ =>
      intro G' H' cls dd g e xr
      obtain ⟨o1, o2, o3⟩ := v.out g e (.inl rfl)
      rw [Gy_nil] at o1 o2
      exact h' G' H' cls dd ⟨o1, CF.rfl, o2⟩ xr
    | ok a κ =>
      intro G' H' g e
      obtain ⟨o1, o2, o3⟩ := v.out g e (.inl rfl)
      rw [Gy_nil] at o1 o2
      exact k a G' G' H' _ (.inl rfl) (h' G' H' ⟨o1, CF.rfl, o2⟩)
  | cons i r =>
    unfold eR at h
    dsimp only at h
    revert h
    generalize f (mrg (i :: r) s.ρ s.ω) (s.cell cs (i :: r)) = o
    intro h
    cases o with
    | bad => exact h
    | er x κ =>
      dsimp only at h
      split at h
      · rename_i hf
        obtain ⟨f1, f2⟩ := Bool.and_eq_true_iff.mp hf
        intro G' H' cls dd g e xr
        obtain ⟨o1, o2, o3⟩ := v.out g e (.inr f2)
        exact h _ H' cls dd ⟨o1, CF.rfl, o2⟩ (xr.go o3 f1)
      · exact h.elim
    | ok a κ =>
      dsimp only at h
      split at h
      · rename_i hf
        obtain ⟨f1, f2⟩ := Bool.and_eq_true_iff.mp hf
        intro G' H' g e
        obtain ⟨o1, o2, o3⟩ := v.out g e (.inr f2)
        exact k a G' _ H' _ (.inr ⟨by simp, f1, o3⟩) (h _ H' ⟨o1, CF.rfl, o2⟩)
      · exact h.elim
end
section
variable {C : KM} {cs : Option Nat} {W : WX} {σ : St} {s : Ss} {G H : Hp} {ft : Nat → List Addr}
theorem px_use {t : TE} {f : M D} {R : List Nat} {Q : VK} (h : PXt C cs W t f) (v : SV C G H cs σ s ft) (u : Use C cs W σ s G H ft (fun d G' H' _ => ∀ w, Rep C G' w d → Q w H') (eR cs R D.free f s)) : t σ H Q :=
  h.run σ _ _ _ _ _ Q (v.ev R) (use_res v u fun d G' G2 H' s' c r w rw' => by
    rcases c with c | ⟨_, c1, c2⟩
    · subst c; exact r w rw'
    · exact r w (rw'.go c2 c1))
theorem tx_use {t : TT} {f : M Bool} {R : List Nat} {Q : Bool → Hp → Prop} (h : TXt C cs W t f) (v : SV C G H cs σ s ft) (u : Use C cs W σ s G H ft (fun b _ H' _ => Q b H') (eR cs R (fun _ => true) f s)) : t σ H Q :=
  h.run σ _ _ _ _ _ Q (v.ev R) (use_res v u fun d G' G2 H' s' c r => r)
/-- a value that is dropped -/
theorem pd_use {t : TE} {f : M D} {R : List Nat} {Q : VK} (h : PXt C cs W t f) (v : SV C G H cs σ s ft) (u : Use C cs W σ s G H ft (fun d G' H' _ => ∀ w, Q w H') (eR cs R (fun _ => true) f s)) : t σ H Q :=
  h.run σ _ _ _ _ _ Q (v.ev R) (use_res v u fun d G' G2 H' s' c r w _ => r w)
theorem ix_use {t : TI} {f : M (List D)} {Q : It → Hp → Prop} (h : IXt C cs W t f) (v : SV C G H cs σ s ft) (u : Use C cs W σ s G H ft (fun ds G' H' _ => ∀ J, ItOk C J G' ds → Q J H') (eR cs [] (fun _ => true) f s)) : t σ H Q :=
  h.run σ _ _ _ _ _ Q (v.ev []) (use_res v u fun d G' G2 H' s' c r J hJ => by
    rcases c with c | ⟨c0, _⟩
    · subst c; exact r J hJ
    · exact absurd rfl c0)

/-- a fresh list -/
theorem fx_use {t : TE} {f : M (List D)} {R : List Nat} {Q : VK} (h : FXt C cs W t f) (v : SV C G H cs σ s ft) (u : Use C cs W σ s G H ft (fun ds G' H' _ => ∀ p vs H2, H' p = none → (∀ b, b ≠ p → H2 b = H' b) → H2 p = some (.lst vs) → vs.length ≤ sizeLine → Reps C G' vs ds → Q (.ref p) H2) (eR cs R D.frees f s)) : t σ H Q :=
  h.run σ _ _ _ _ _ Q (v.ev R) (use_res v u fun d G' G2 H' s' c r p vs H2 h1 h2 h3 h4 rw' => by
    rcases c with c | ⟨_, c1, c2⟩
    · subst c; exact r p vs H2 h1 h2 h3 h4 rw'
    · exact r p vs H2 h1 h2 h3 h4 (rw'.go c2 c1))
end

/-! ### from an expression's outcome to a statement's -/
def Out.fl {α : Type} (o : Out α) (cs : Option Nat) (s : Ss) (k : α → Ss → Fl) : Fl := match o with
  | .ok a κ => k a (s.put cs κ)
  | .er x κ => .er x (s.put cs κ)
  | .bad => .bad
@[simp] theorem Out.fl_ok {α : Type} (a : α) (κ : Kp) (cs : Option Nat) (s : Ss) (k : α → Ss → Fl) : (Out.ok a κ).fl cs s k = k a (s.put cs κ) := rfl
@[simp] theorem Out.fl_er {α : Type} (x : Exn) (κ : Kp) (cs : Option Nat) (s : Ss) (k : α → Ss → Fl) : (Out.er x κ : Out α).fl cs s k = .er x (s.put cs κ) := rfl
@[simp] theorem Out.fl_bad {α : Type} (cs : Option Nat) (s : Ss) (k : α → Ss → Fl) : (Out.bad : Out α).fl cs s k = .bad := rfl
section
variable {C : KM} {cs : Option Nat} {W : WX} {σ : St} {s : Ss} {G H : Hp} {ft : Nat → List Addr} {D : Ends} {α : Type}
theorem use_fl {R1 : α → Hp → Hp → Ss → Prop} {o : Out α} {k : α → Ss → Fl} (h : FR C cs W G H ft D (o.fl cs s k))
    (q : ∀ a G' H' s', SV C G' H' cs σ s' ft → Later C cs G H ft σ s' G' H' ft → FR C cs W G' H' ft D (k a s') → R1 a G' H' s') : Use C cs W σ s G H ft R1 o := by
  cases o with
  | bad => exact h
  | er x κ => exact fun G' H' cls dd l r => h σ G' H' ft cls dd l r
  | ok a κ => exact fun G' H' l => q a G' H' _ l.sv l (FR.shift l h)
end
section
variable {C : KM} {cs : Option Nat} {W : WX} {t u : TS} {b b1 b2 : Ss → Fl}
def bNext : Ss → Fl := fun s => .nx s
theorem sx_next : SXt C cs W tNext bNext := ⟨fun σ s G H ft D v h => h σ G H ft (.rfl v)⟩
theorem sx_break : SXt C cs W tBreak (fun s => .bk s) := ⟨fun σ s G H ft D v h => h σ G H ft (.rfl v)⟩
theorem sx_cont : SXt C cs W tCont (fun s => .ct s) := ⟨fun σ s G H ft D v h => h σ G H ft (.rfl v)⟩
def bSeq (b1 b2 : Ss → Fl) : Ss → Fl := fun s => match b1 s with
  | .nx s' => b2 s'
  | o => o
theorem sx_seq (h1 : SXt C cs W t b1) (h2 : SXt C cs W u b2) : SXt C cs W (tSeq t u) (bSeq b1 b2) := by
  refine ⟨fun σ s G H ft D v h => h1.run σ s G H ft _ v ?_⟩
  unfold bSeq at h
  cases hb : b1 s with
  | nx s' =>
    rw [hb] at h
    exact fun σ' G' H' ft' l => h2.run σ' s' G' H' ft' D l.sv (FR.shift l h)
  | bk s' => rw [hb] at h; exact h
  | ct s' => rw [hb] at h; exact h
  | rt d s' => rw [hb] at h; exact h
  | er x s' => rw [hb] at h; exact h
  | bad => rw [hb] at h; exact h
/-- return e -/
def bRet (cs : Option Nat) (R : List Nat) (f : M G.D) : Ss → Fl := fun s => (eR cs R D.free f s).fl cs s fun d s => .rt d s
theorem sx_ret {te : TE} {f : M G.D} {R : List Nat} (h : PXt C cs W te f) : SXt C cs W (tRet te) (bRet cs R f) :=
  ⟨fun σ s G H ft D v k => px_use (R := R) h v (use_fl k fun d G' H' s' v' l k' w r => k' σ G' H' ft w (.rfl v') r)⟩
theorem sx_retN : SXt C cs W tRetN (fun s => .rt .non s) := ⟨fun σ s G H ft D v k => k σ G H ft .non (.rfl v) .non⟩
/-- e, for what it does -/
def bExpr (cs : Option Nat) (R : List Nat) (f : M G.D) : Ss → Fl := fun s => (eR cs R (fun _ => true) f s).fl cs s fun _ s => .nx s
theorem sx_expr {te : TE} {f : M G.D} {R : List Nat} (h : PXt C cs W te f) : SXt C cs W (tDrop te) (bExpr cs R f) :=
  ⟨fun σ s G H ft D v k => pd_use (R := R) h v (use_fl k fun d G' H' s' v' l k' w => k' σ G' H' ft (.rfl v'))⟩
def bIf (cs : Option Nat) (R : List Nat) (f : M Bool) (b1 b2 : Ss → Fl) : Ss → Fl := fun s => (eR cs R (fun _ => true) f s).fl cs s fun c s => if c = true then b1 s else b2 s
theorem sx_if {tc : TT} {f : M Bool} {R : List Nat} (h : TXt C cs W tc f) (h1 : SXt C cs W t b1) (h2 : SXt C cs W u b2) : SXt C cs W (tIfS tc t u) (bIf cs R f b1 b2) :=
  ⟨fun σ s G H ft D v k => tx_use (R := R) h v (use_fl k fun c G' H' s' v' l k' => by
    cases c with
    | true => rw [if_pos rfl] at k' ⊢; exact h1.run σ s' G' H' ft D v' k'
    | false => rw [if_neg (by decide)] at k' ⊢; exact h2.run σ s' G' H' ft D v' k')⟩
end
end G

set_option Elab.async false
set_option linter.all false
set_option maxRecDepth 100000
/-! Stores: data in slots, own lists laid, let stand, grown, set. -/
namespace G
open PySem PySem.Spec PyProof.Rows L2 RZ
theorem wipeD_out {ρ : Sd} {i : Nat} : ∀ {vs : List Nat}, i ∉ vs → (wipeD ρ vs)[i]? = ρ[i]?
  | [], _ => rfl
  | v :: vs, h => by
    simp only [List.mem_cons, not_or] at h
    unfold wipeD
    rw [List.getElem?_set_ne (Ne.symm h.1), wipeD_out h.2]
/-- slots vs get data: their own lists are let go -/
def Ss.asg (vs : List Nat) (ρ' : Sd) (s : Ss) : Ss := ⟨ρ', wipeD s.ω vs⟩
/-- the own list of slot i stands from now on -/
def Ss.fix (i : Nat) (s : Ss) : Ss := match s.ω[i]? with
  | some (some d) => ⟨s.ρ.set i (some d), s.ω.set i none⟩
  | _ => s
/-- slot i holds a new own list -/
def Ss.own (i : Nat) (ds : List D) (s : Ss) : Ss := ⟨s.ρ.set i none, s.ω.set i (some (.lst ds))⟩
/-- .. another content -/
def Ss.wr (i : Nat) (ds : List D) (s : Ss) : Ss := ⟨s.ρ, s.ω.set i (some (.lst ds))⟩
theorem set_some {α : Type} {l : List (Option α)} {i j : Nat} {x y : Option α} (h : (l.set i x)[j]? = some y) : (i = j ∧ x = y) ∨ (i ≠ j ∧ l[j]? = some y) := by
  by_cases q : i = j
  · subst q
    by_cases hl : i < l.length
    · rw [List.getElem?_set_self hl] at h
      exact .inl ⟨rfl, Option.some.inj h⟩
    · rw [List.getElem?_eq_none (by simpa using hl)] at h
      cases h
  · rw [List.getElem?_set_ne q] at h
    exact .inr ⟨q, h⟩
section
variable {C : KM} {cs : Option Nat} {σ : St} {s : Ss} {G H : Hp} {ft : Nat → List Addr}
theorem SV.evc (v : SV C G H cs σ s ft) : EV C G H cs σ s.ρ (s.cell cs []) (cA cs [] ft) := by
  have e := v.ev []
  rw [Gx_nil] at e
  exact e
theorem SV.asg (v : SV C G H cs σ s ft) {vs : List Nat} {ρ' : Sd} {σ' : St} {κ : Kp} {A : Addr → Prop} (hc : ∀ c, cs = some c → c ∉ vs) (e : EV C G H cs σ' ρ' κ A) (hl : σ'.length = σ.length) (hs : ∀ j, j ∉ vs → σ'[j]? = σ[j]?) :
    ∃ ft', Later C cs G H ft σ' (s.asg vs ρ') G H ft' := by
  refine ⟨fun i => if i ∈ vs then [] else ft i, ⟨Sub.rfl, fun _ _ e _ => e, fun _ e => e, fun _ e _ _ => e, fun a ⟨i, hi⟩ => ?_⟩, fun c hc' hn => ?_, e.gh, e.sl, e.ln, fun i d hd => ?_, fun i j a hi hj => ?_, fun i a hi => ?_, fun c hc' => ?_, ?_, fun i hi => ?_⟩
  · try dsimp only at hi
    split at hi
    · cases hi
    · exact .inl ⟨i, hi⟩
  · try dsimp only
    rw [if_neg (hc c hc')]
  · obtain ⟨h1, h2⟩ := wipeD_some hd
    obtain ⟨a, k1, k2, k3⟩ := v.ow i d h1
    try dsimp only
    rw [if_neg h2]
    exact ⟨a, (hs i h2).trans k1, k2, k3⟩
  · try dsimp only at hi hj
    split at hi
    · cases hi
    · split at hj
      · cases hj
      · exact v.dj i j a hi hj
  · try dsimp only at hi
    split at hi
    · cases hi
    · exact v.gn i a hi
  · try dsimp only
    split
    · exact Nat.zero_le _
    · exact v.c1 c hc'
  · show (wipeD s.ω vs).length = ρ'.length
    rw [wipeD_length, v.lo, ← v.ln, ← hl, e.ln]
  · try dsimp only
    split
    · rfl
    · rename_i hn
      refine v.em i fun d z => hi d ?_
      show (wipeD s.ω vs)[i]? = _
      rw [wipeD_out hn]
      exact z
theorem SV.fix (v : SV C G H cs σ s ft) {i : Nat} (hc : csOk cs i = true) : ∃ G' ft', Later C cs G H ft σ (s.fix i) G' H ft' := by
  unfold Ss.fix
  split
  case h_2 => exact ⟨G, ft, Later.rfl v⟩
  rename_i d hd
  have sg : Sub G (Gx G H ft [i]) := fun a o e => by
    unfold Gx
    split
    · rename_i h
      obtain ⟨j, _, hj⟩ := h
      rw [(v.gn j a hj).1] at e
      cases e
    · exact e
  have inn : ∀ {a : Addr}, a ∈ ft i → Gx G H ft [i] a = H a := fun {a} h => by
    unfold Gx
    rw [if_pos ⟨i, by simp, h⟩]
  have out : ∀ {a : Addr}, a ∉ ft i → Gx G H ft [i] a = G a := fun {a} h => by
    unfold Gx
    rw [if_neg]
    rintro ⟨j, hj, ha⟩
    have : j = i := by simpa using hj
    subst this
    exact h ha
  obtain ⟨a0, k1, k2, k3⟩ := v.ow i d hd
  refine ⟨Gx G H ft [i], fun j => if j = i then [] else ft j, ⟨sg, fun _ _ e _ => e, fun _ e => e, fun a e _ m => ?_, fun a ⟨j, hj⟩ => ?_⟩, fun c hc' hn => ?_, fun a o e => ?_, fun j x hx => ?_, ?_, fun j x hx => ?_, fun j k a hj hk => ?_, fun j a hj => ?_, fun c hc' => ?_, ?_, fun j hj => ?_⟩
  · rw [out fun z => m ⟨i, z⟩]
    exact e
  · try dsimp only at hj
    split at hj
    · cases hj
    · exact .inl ⟨j, hj⟩
  · try dsimp only
    rw [if_neg (csOk_ne hc hc')]
  · by_cases q : a ∈ ft i
    · rw [inn q] at e; exact e
    · rw [out q] at e; exact v.gh a o e
  · rcases set_some hx with ⟨rfl, hy⟩ | ⟨_, hx⟩
    · cases hy
      exact ⟨_, k1, Own.fix sg k2 fun b hb => inn hb⟩
    · obtain ⟨w, h1, h2⟩ := v.sl j x hx
      exact ⟨w, h1, h2.mono sg⟩
  · show σ.length = (s.ρ.set i (some d)).length
    rw [List.length_set]
    exact v.ln
  · rcases set_some hx with ⟨rfl, hy⟩ | ⟨ne, hx⟩
    · cases hy
    · obtain ⟨b, h1, h2, h3⟩ := v.ow j x hx
      try dsimp only
      rw [if_neg (Ne.symm ne)]
      refine ⟨b, h1, h2.mono sg fun y hy => ⟨rfl, ?_⟩, h3⟩
      rw [out fun z => ne (v.dj i j y z hy)]
      exact (v.gn j y hy).1
  · try dsimp only at hj hk
    split at hj
    · cases hj
    · split at hk
      · cases hk
      · exact v.dj j k a hj hk
  · try dsimp only at hj
    split at hj
    · cases hj
    · rename_i ne
      refine ⟨?_, (v.gn j a hj).2⟩
      rw [out fun z => ne (v.dj j i a hj z)]
      exact (v.gn j a hj).1
  · try dsimp only
    split
    · exact Nat.zero_le _
    · exact v.c1 c hc'
  · show (s.ω.set i none).length = (s.ρ.set i (some d)).length
    rw [List.length_set, List.length_set]
    exact v.lo
  · try dsimp only
    split
    · rfl
    · rename_i ne
      refine v.em j fun x z => hj x ?_
      show (s.ω.set i none)[j]? = _
      rw [List.getElem?_set_ne (Ne.symm ne)]
      exact z
theorem SV.own (v : SV C G H cs σ s ft) {i : Nat} {p : Addr} {vs : List V} {ds : List D} {H2 : Hp} (hc : cs = some i → ft i = []) (hi : i < σ.length) (hp : H p = none) (he : ∀ b, b ≠ p → H2 b = H b) (h2 : H2 p = some (.lst vs)) (hl : vs.length ≤ sizeLine) (r : Reps C G vs ds) :
    ∃ ft', Later C cs G H ft (σ.set i (some (.ref p))) (s.own i ds) G H2 ft' := by
  have gp : G p = none := free_of v.gh hp
  have np : ∀ {j : Nat}, p ∉ ft j := fun {j} h => (v.gn j p h).2 hp
  have ne : ∀ {j : Nat} {a : Addr}, a ∈ ft j → a ≠ p := fun {j a} h e => np (e ▸ h)
  refine ⟨fun j => if j = i then [p] else ft j, ⟨Sub.rfl, fun a o e _ => ?_, fun a e => ?_, fun _ e _ _ => e, fun a ⟨j, hj⟩ => ?_⟩, fun c hc' hn => ?_, fun a o e => ?_, fun j x hx => ?_, ?_, fun j x hx => ?_, fun j k a hj hk => ?_, fun j a hj => ?_, fun c hc' => ?_, ?_, fun j hj => ?_⟩
  · rw [he a (fun z => by rw [z, hp] at e; cases e)]
    exact e
  · rw [he a (fun z => by rw [z] at e; exact e hp)]
    exact e
  · try dsimp only at hj
    split at hj
    · have : a = p := by simpa using hj
      subst this
      exact .inr hp
    · exact .inl ⟨j, hj⟩
  · try dsimp only
    split
    · rename_i z
      subst z
      exact absurd (hc hc') hn
    · rfl
  · rw [he a (fun z => by rw [z, gp] at e; cases e)]
    exact v.gh a o e
  · rcases set_some hx with ⟨_, hy⟩ | ⟨q, hx⟩
    · cases hy
    · obtain ⟨w, h1, h2⟩ := v.sl j x hx
      exact ⟨w, by rw [List.getElem?_set_ne q]; exact h1, h2⟩
  · show (σ.set i _).length = (s.ρ.set i none).length
    rw [List.length_set, List.length_set]
    exact v.ln
  · rcases set_some hx with ⟨rfl, hy⟩ | ⟨q, hx⟩
    · cases hy
      try dsimp only
      rw [if_pos rfl]
      refine ⟨p, List.getElem?_set_self hi, .lst h2 hl gp (Owns.of r) (by simp), by simp⟩
    · obtain ⟨b, h1, h3, h4⟩ := v.ow j x hx
      try dsimp only
      rw [if_neg (Ne.symm q)]
      exact ⟨b, by rw [List.getElem?_set_ne q]; exact h1, h3.mono Sub.rfl fun y hy => ⟨he y (ne hy), (v.gn j y hy).1⟩, h4⟩
  · try dsimp only at hj hk
    split at hj
    · have : a = p := by simpa using hj
      subst this
      split at hk
      · rename_i e1 e2; rw [e1, e2]
      · exact absurd hk np
    · split at hk
      · have : a = p := by simpa using hk
        subst this
        exact absurd hj np
      · exact v.dj j k a hj hk
  · try dsimp only at hj
    split at hj
    · have : a = p := by simpa using hj
      subst this
      exact ⟨gp, by rw [h2]; simp⟩
    · exact ⟨(v.gn j a hj).1, by rw [he a (ne hj)]; exact (v.gn j a hj).2⟩
  · try dsimp only
    split
    · simp
    · exact v.c1 c hc'
  · show (s.ω.set i _).length = (s.ρ.set i none).length
    rw [List.length_set, List.length_set]
    exact v.lo
  · try dsimp only
    split
    · rename_i z
      subst z
      exact absurd (List.getElem?_set_self (by rw [v.lo, ← v.ln]; exact hi)) (hj _)
    · rename_i q
      refine v.em j fun x z => hj x ?_
      show (s.ω.set i _)[j]? = _
      rw [List.getElem?_set_ne (Ne.symm q)]
      exact z
/-- an own list told another content -/
theorem SV.wr (v : SV C G H cs σ s ft) {i : Nat} {a : Addr} {vs : List V} {ds : List D} {d0 : D} {F F' : List Addr} (h0 : s.ω[i]? = some (some d0)) (ha : σ[i]? = some (some (.ref a))) (hf : ft i = a :: F) (hF : ∀ b ∈ F', b ∈ F) (nF : a ∉ F)
    (hz : vs.length ≤ sizeLine) (r : Owns C G H vs ds F') : ∃ ft', Later C cs G H ft σ (s.wr i ds) G (upd H a (.lst vs)) ft' := by
  have ga : G a = none := (v.gn i a (by rw [hf]; exact List.mem_cons_self)).1
  have nj : ∀ {j : Nat} {b : Addr}, j ≠ i → b ∈ ft j → b ≠ a := fun {j b} q h z => q (v.dj j i a (z ▸ h) (by rw [hf]; exact List.mem_cons_self))
  refine ⟨fun j => if j = i then a :: F' else ft j, ⟨Sub.rfl, fun b o e m => ?_, fun b e => ?_, fun _ e _ _ => e, fun b ⟨j, hj⟩ => ?_⟩, fun c hc' hn => ?_, fun b o e => ?_, v.sl, v.ln, fun j x hx => ?_, fun j k b hj hk => ?_, fun j b hj => ?_, fun c hc' => ?_, ?_, fun j hj => ?_⟩
  · rw [upd_ne (fun z => m ⟨i, by rw [hf, z]; exact List.mem_cons_self⟩)]
    exact e
  · by_cases q : b = a
    · rw [q, upd_same]; simp
    · rw [upd_ne q]; exact e
  · try dsimp only at hj
    split at hj
    · refine .inl ⟨i, ?_⟩
      rw [hf]
      rcases List.mem_cons.mp hj with q | q
      · rw [q]; exact List.mem_cons_self
      · exact List.mem_cons_of_mem _ (hF b q)
    · exact .inl ⟨j, hj⟩
  · try dsimp only
    split
    · rename_i z
      subst z
      have l1 := v.c1 c hc'
      rw [hf] at l1
      have e1 : F = [] := by
        cases F with
        | nil => rfl
        | cons x y => simp at l1
      subst e1
      have e2 : F' = [] := by
        cases F' with
        | nil => rfl
        | cons x y => exact absurd (hF x List.mem_cons_self) (by simp)
      rw [e2, hf]
    · rfl
  · rw [upd_ne (fun z => by rw [z, ga] at e; cases e)]
    exact v.gh b o e
  · rcases set_some hx with ⟨rfl, hy⟩ | ⟨q, hx⟩
    · cases hy
      try dsimp only
      rw [if_pos rfl]
      refine ⟨a, ha, .lst upd_same hz ga (r.mono Sub.rfl fun b hb => ⟨upd_ne fun z => nF (by rw [← z]; exact hF b hb), (v.gn i b (by rw [hf]; exact List.mem_cons_of_mem _ (hF b hb))).1⟩) fun z => nF (hF _ z), by simp⟩
    · obtain ⟨b, h1, h3, h4⟩ := v.ow j x hx
      try dsimp only
      rw [if_neg (Ne.symm q)]
      exact ⟨b, h1, h3.mono Sub.rfl fun y hy => ⟨upd_ne (nj (Ne.symm q) hy), (v.gn j y hy).1⟩, h4⟩
  · try dsimp only at hj hk
    have up : ∀ {b : Addr}, b ∈ a :: F' → b ∈ ft i := fun {b} h => by
      rw [hf]
      rcases List.mem_cons.mp h with q | q
      · rw [q]; exact List.mem_cons_self
      · exact List.mem_cons_of_mem _ (hF b q)
    split at hj
    · split at hk
      · rename_i e1 e2; rw [e1, e2]
      · rename_i e1 e2
        exact e1.trans (v.dj i k b (up hj) hk)
    · split at hk
      · rename_i e1 e2
        exact (v.dj j i b hj (up hk)).trans e2.symm
      · exact v.dj j k b hj hk
  · try dsimp only at hj
    split at hj
    · rcases List.mem_cons.mp hj with q | q
      · subst q
        exact ⟨ga, by rw [upd_same]; simp⟩
      · have m : b ∈ ft i := by rw [hf]; exact List.mem_cons_of_mem _ (hF b q)
        refine ⟨(v.gn i b m).1, ?_⟩
        rw [upd_ne fun z => nF (by rw [← z]; exact hF b q)]
        exact (v.gn i b m).2
    · rename_i ne
      refine ⟨(v.gn j b hj).1, ?_⟩
      rw [upd_ne (nj ne hj)]
      exact (v.gn j b hj).2
  · try dsimp only
    split
    · rename_i z
      subst z
      have l1 := v.c1 c hc'
      rw [hf] at l1
      have e1 : F = [] := by
        cases F with
        | nil => rfl
        | cons x y => simp at l1
      subst e1
      have e2 : F' = [] := by
        cases F' with
        | nil => rfl
        | cons x y => exact absurd (hF x List.mem_cons_self) (by simp)
      rw [e2]
      simp
    · exact v.c1 c hc'
  · show (s.ω.set i _).length = s.ρ.length
    rw [List.length_set]
    exact v.lo
  · try dsimp only
    split
    · rename_i z
      subst z
      have hlt : j < s.ω.length := (List.getElem?_eq_some_iff.mp h0).1
      exact absurd (List.getElem?_set_self hlt) (hj _)
    · rename_i q
      refine v.em j fun x z => hj x ?_
      show (s.ω.set i _)[j]? = _
      rw [List.getElem?_set_ne (Ne.symm q)]
      exact z
end

/-! ### rules -/
section
variable {C : KM} {cs : Option Nat} {W : WX}
/-- targets = e -/
def bAsg (cs : Option Nat) (R : List Nat) (vs : List Nat) (tg : Tg) (f : M D) : Ss → Fl := fun s => (eR cs R D.free f s).fl cs s fun d s => match tg d s.ρ with
  | some ρ' => .nx (s.asg vs ρ')
  | none => .bad
theorem sx_asg {te : TE} {f : M D} {g : TG} {tg : Tg} {vs R : List Nat} (hc : ∀ c, cs = some c → c ∉ vs) (h : PXt C cs W te f) (hg : GXt C cs vs g tg) : SXt C cs W (tAsg te g) (bAsg cs R vs tg f) := by
  refine ⟨fun σ s G H ft D v k => px_use (R := R) h v (use_fl k fun d G' H' s' v' l k' w r => ?_)⟩
  cases ht : tg d s'.ρ with
  | none => rw [ht] at k'; exact (show False from k').elim
  | some ρ' =>
    rw [ht] at k'
    refine hg.run σ s'.ρ ρ' _ G' H' _ w d _ v'.evc r ht fun σ' e' hl hs => ?_
    obtain ⟨ft', l'⟩ := v'.asg hc e' hl hs
    exact k' σ' G' H' ft' l'
/-- name = a new list, the def's own -/
def noOwn (s : Ss) (i : Nat) : Bool := match s.ω[i]? with
  | some none => true
  | _ => false
def bOwn (cs : Option Nat) (R : List Nat) (i : Nat) (f : M (List D)) : Ss → Fl := fun s => (eR cs R D.frees f s).fl cs s fun ds s => if decide (i < s.ρ.length) && (csOk cs i || noOwn s i) then .nx (s.own i ds) else .bad
theorem sx_own {te : TE} {f : M (List D)} {i : Nat} {R : List Nat} (h : FXt C cs W te f) : SXt C cs W (tAsg te (gName i)) (bOwn cs R i f) := by
  refine ⟨fun σ s G H ft D v k => fx_use (R := R) h v (use_fl k fun ds G' H' s' v' l k' p vs H2 h1 h2 h3 h4 r => ?_)⟩
  split at k'
  · rename_i hb
    obtain ⟨b1, b2⟩ := Bool.and_eq_true_iff.mp hb
    have b1 := of_decide_eq_true b1
    obtain ⟨ft', l'⟩ := v'.own (fun z => v'.em i fun d q => by
      rcases Bool.or_eq_true_iff.mp b2 with b2 | b2
      · exact csOk_ne b2 z rfl
      · unfold noOwn at b2
        rw [q] at b2
        cases b2) (by rw [v'.ln]; exact b1) h1 h2 h3 h4 r
    exact k' _ G' H2 ft' l'
  · exact (show False from k').elim
/-- before a statement a list of the def's own is let stand -/
def bFix (i : Nat) (b : Ss → Fl) : Ss → Fl := fun s => b (s.fix i)
theorem sx_fix {t : TS} {b : Ss → Fl} {i : Nat} (hc : csOk cs i = true) (h : SXt C cs W t b) : SXt C cs W t (bFix i b) := by
  refine ⟨fun σ s G H ft D v k => ?_⟩
  obtain ⟨G', ft', l⟩ := v.fix (i := i) hc
  exact h.run σ _ G' H ft' D l.sv (FR.shift l k)
def Ss.lst (s : Ss) (i : Nat) : Option (List D) := match s.ω[i]? with
  | some (some (.lst ds)) => some ds
  | _ => none
theorem SV.at {σ : St} {s : Ss} {G H : Hp} {ft : Nat → List Addr} (v : SV C G H cs σ s ft) {i : Nat} {ds : List D} (h : s.lst i = some ds) : ∃ a vs F, s.ω[i]? = some (some (.lst ds)) ∧ σ[i]? = some (some (.ref a)) ∧ H a = some (.lst vs) ∧ vs.length ≤ sizeLine ∧ ft i = a :: F ∧ a ∉ F ∧ Owns C G H vs ds F := by
  unfold Ss.lst at h
  split at h
  · rename_i ds' hd
    cases h
    obtain ⟨a, h1, h2, h3⟩ := v.ow i _ hd
    generalize hF : ft i = F at h2 h3
    cases h2 with
    | rep h => exact absurd rfl h3
    | lst h z g t n => exact ⟨a, _, _, hd, h1, h, z, rfl, n, t⟩
  · cases h
/-- the list's place does not change under an expression -/
theorem SV.same {σ : St} {s s' : Ss} {G H G' H' : Hp} {ft : Nat → List Addr} (v : SV C G H cs σ s ft) (v' : SV C G' H' cs σ s' ft) {i : Nat} {ds ds' : List D} {a : Addr} (e : σ[i]? = some (some (.ref a))) (h' : s'.lst i = some ds') :
    ∃ vs F, s'.ω[i]? = some (some (.lst ds')) ∧ H' a = some (.lst vs) ∧ vs.length ≤ sizeLine ∧ ft i = a :: F ∧ a ∉ F ∧ Owns C G' H' vs ds' F := by
  obtain ⟨b, vs, F, h0, h1, h2, h3, h4, h5, h6⟩ := v'.at h'
  rw [e] at h1
  cases h1
  exact ⟨vs, F, h0, h2, h3, h4, h5, h6⟩
/-- x.append(e) -/
def bApp (cs : Option Nat) (R : List Nat) (i : Nat) (f : M D) : Ss → Fl := fun s => match s.lst i with
  | none => .bad
  | some _ => (eR cs R D.free f s).fl cs s fun d s => match s.lst i with
    | some ds => if ds.length < sizeLine then .nx (s.wr i (ds ++ [d])) else .bad
    | none => .bad
theorem sx_app {K : PySem.W.Frag} {te : TE} {f : M D} {i : Nat} {R : List Nat} (h : PXt C cs W te f) : SXt C cs W (tDrop (tBM K "list" rAppend (tVar i) (tCons te tNil))) (bApp cs R i f) := by
  refine ⟨fun σ s G H ft D v k => ?_⟩
  unfold bApp at k
  cases h0 : s.lst i with
  | none => rw [h0] at k; exact (show False from k).elim
  | some ds0 =>
    rw [h0] at k
    obtain ⟨a, vs0, F0, _, ea, ha, _⟩ := v.at h0
    refine ⟨_, ea, .inl ⟨rfl, _, .inl (.inl ha)⟩, px_use (R := R) h v (use_fl k fun d G' H' s' v' l k' w r => ?_)⟩
    cases h1 : s'.lst i with
    | none => rw [h1] at k'; exact (show False from k').elim
    | some ds =>
      rw [h1] at k'
      dsimp only at k'
      split at k'
      · rename_i hl
        obtain ⟨vs, F, e1, e2, e3, e4, e5, e6⟩ := v.same (ds := ds) v' ea h1
        obtain ⟨ft', l'⟩ := v'.wr (vs := vs ++ [w]) e1 ea e4 (fun b hb => hb) e5 (by rw [List.length_append, List.length_singleton, e6.length]; omega) (e6.snoc r)
        exact ⟨a, vs, w, rfl, rfl, e2, by rw [e6.length]; exact hl, k' σ G' _ ft' l'⟩
      · exact (show False from k').elim
/-- x[k] = e: first e, then x, then k -/
def bSet (cs : Option Nat) (R R2 : List Nat) (i : Nat) (fk fe : M D) : Ss → Fl := fun s => (eR cs R D.free fe s).fl cs s fun d s => match s.lst i with
  | none => .bad
  | some _ => (eR cs R2 D.free fk s).fl cs s fun k s => match k, s.lst i with
    | .int k, some ds => (match ixN ds.length k with
      | some j => .nx (s.wr i (ds.set j d))
      | none => .bad)
    | _, _ => .bad
theorem ixN_lt {n : Nat} {k : Int} {j : Nat} (h : ixN n k = some j) : j < n := (ixN_seq h).2.1
theorem sx_set {tk te : TE} {fk fe : M D} {i : Nat} {R R2 : List Nat} (he : PXt C cs W te fe) (hk : PXt C cs W tk fk) : SXt C cs W (tAsg te (gSub (tVar i) tk rSetL)) (bSet cs R R2 i fk fe) := by
  refine ⟨fun σ s G H ft D v k => px_use (R := R) he v (use_fl k fun d G1 H1 s1 v1 l1 k1 w rw1 => ?_)⟩
  cases h0 : s1.lst i with
  | none => rw [h0] at k1; exact (show False from k1).elim
  | some ds0 =>
    rw [h0] at k1
    obtain ⟨a, vs0, F0, _, ea, ha, _⟩ := v1.at h0
    refine ⟨_, ea, px_use (R := R2) hk v1 (use_fl k1 fun kd G2 H2 s2 v2 l2 k2 kv rk => ?_)⟩
    cases kd with
    | int kk =>
      cases h1 : s2.lst i with
      | none => rw [h1] at k2; exact (show False from k2).elim
      | some ds =>
        rw [h1] at k2
        dsimp only at k2
        cases hj : ixN ds.length kk with
        | none => rw [hj] at k2; exact (show False from k2).elim
        | some j =>
          rw [hj] at k2
          dsimp only at k2
          have ev := rk.int_
          subst ev
          obtain ⟨vs, F, e1, e2, e3, e4, e5, e6⟩ := v1.same (ds := ds) v2 ea h1
          obtain ⟨F', o, sub⟩ := Owns.set (rw1.mono l2.go.gg) j e6
          obtain ⟨ft', l'⟩ := v2.wr (vs := vs.set j w) e1 ea e4 sub e5 (by rw [List.length_set]; exact e3) o
          exact ⟨a, vs, kk, j, rfl, rfl, e2, by rw [e6.length]; exact hj, k2 σ G2 _ ft' l'⟩
    | _ => exact (show False from k2).elim
/-- name op= e, the name a data slot -/
def bAug (cs : Option Nat) (R : List Nat) (i : Nat) (g : D → D → Option D) (f : M D) : Ss → Fl := fun s => match s.ρ[i]? with
  | some (some x) => (eR cs R D.free f s).fl cs s fun d s => match g x d with
    | some z => .nx (s.asg [i] (s.ρ.set i (some z)))
    | none => .bad
  | _ => .bad
theorem sx_aug {te : TE} {f : M D} {i : Nat} {R : List Nat} {ti : TIp} {g : D → D → Option D} (hc : csOk cs i = true) (h : PXt C cs W te f) (hs : Snd2 C ti g) : SXt C cs W (tAug i te ti) (bAug cs R i g f) := by
  refine ⟨fun σ s G H ft D v k => ?_⟩
  unfold bAug at k
  split at k
  case h_2 => exact (show False from k).elim
  rename_i x hx
  obtain ⟨u, h1, h2⟩ := v.sl i x hx
  refine ⟨u, h1, px_use (R := R) h v (use_fl k fun d G1 H1 s1 v1 l1 k1 w rw1 => ?_)⟩
  cases hz : g x d with
  | none => rw [hz] at k1; exact (show False from k1).elim
  | some z =>
    rw [hz] at k1
    refine hs G1 H1 u w x d z _ v1.gh (h2.mono l1.go.gg) rw1 hz fun G2 H2 y al ry => ?_
    have v2 : SV C G2 H2 cs σ s1 ft := ⟨al.gh, fun j e q => let ⟨v0, a1, a2⟩ := v1.sl j e q; ⟨v0, a1, a2.mono al.gg⟩, v1.ln, fun j e q => (let ⟨b, a1, a2, a3⟩ := v1.ow j e q; ⟨b, a1, a2.mono al.gg fun p hp => ⟨by
      have := (v1.gn j p hp).2
      cases hq : H1 p with
      | none => exact absurd hq this
      | some o => exact al.hh p o hq, al.fr p (v1.gn j p hp).1 (v1.gn j p hp).2⟩, a3⟩), v1.dj, fun j p hp => ⟨al.fr p (v1.gn j p hp).1 (v1.gn j p hp).2, by
      have := (v1.gn j p hp).2
      cases hq : H1 p with
      | none => exact absurd hq this
      | some o => rw [al.hh p o hq]; simp⟩, v1.c1, v1.lo, v1.em⟩
    obtain ⟨ft', l'⟩ := v2.asg (vs := [i]) (ρ' := s1.ρ.set i (some z)) (fun c e hm => csOk_ne hc e (by simpa using hm)) (v2.evc.set hc ry) (by simp) fun j hj => List.getElem?_set_ne fun q => hj (by simp [q])
    exact k1 _ G2 H2 ft' (Later.trans ⟨al.go _, CF.rfl, v2⟩ l')
end
end G

set_option Elab.async false
set_option linter.all false
set_option maxRecDepth 100000
/-! Loops; raise; try. -/
namespace G
open PySem PySem.Spec PyProof.Rows L2 RZ
theorem SV.al {C : KM} {cs : Option Nat} {σ : St} {s : Ss} {G H G2 H2 : Hp} {ft : Nat → List Addr} (v1 : SV C G H cs σ s ft) (al : Al G H G2 H2) : Later C cs G H ft σ s G2 H2 ft := by
  have kp : ∀ {j : Nat} {p : Addr}, p ∈ ft j → H2 p = H p := fun {j p} hp => by
    cases hq : H p with
    | none => exact absurd hq (v1.gn j p hp).2
    | some o => exact al.hh p o hq
  exact ⟨al.go _, CF.rfl, al.gh, fun j e q => let ⟨v0, a1, a2⟩ := v1.sl j e q; ⟨v0, a1, a2.mono al.gg⟩, v1.ln, fun j e q => (let ⟨b, a1, a2, a3⟩ := v1.ow j e q; ⟨b, a1, a2.mono al.gg fun p hp => ⟨kp hp, al.fr p (v1.gn j p hp).1 (v1.gn j p hp).2⟩, a3⟩), v1.dj,
    fun j p hp => ⟨al.fr p (v1.gn j p hp).1 (v1.gn j p hp).2, by rw [kp hp]; exact (v1.gn j p hp).2⟩, v1.c1, v1.lo, v1.em⟩

/-! ### for -/
/-- the walk over a row of data -/
def forGo (vs : List Nat) (tg : Tg) (b : Ss → Fl) : List D → Ss → Fl
  | [], s => .nx s
  | d :: r, s => match tg d s.ρ with
    | none => .bad
    | some ρ' => match b (s.asg vs ρ') with
      | .nx s' => forGo vs tg b r s'
      | .ct s' => forGo vs tg b r s'
      | .bk s' => .nx s'
      | .rt d s' => .rt d s'
      | .er x s' => .er x s'
      | .bad => .bad
def bFor (cs : Option Nat) (vs : List Nat) (tg : Tg) (fi : M (List D)) (b : Ss → Fl) : Ss → Fl := fun s => (eR cs [] (fun _ => true) fi s).fl cs s fun ds s => forGo vs tg b ds s
section
variable {C : KM} {cs : Option Nat} {W : WX}
theorem sx_for {wi : TI} {g : TG} {tb : TS} {tg : Tg} {vs : List Nat} {fi : M (List D)} {b : Ss → Fl} (hc : ∀ c, cs = some c → c ∉ vs) (hi : IXt C cs W wi fi) (hg : GXt C cs vs g tg) (hb : SXt C cs W tb b) : SXt C cs W (tFor wi g tb) (bFor cs vs tg fi b) := by
  refine ⟨fun σ s G H ft D v k => ix_use hi v (use_fl k fun ds G1 H1 s1 v1 l1 k1 J hJ => ?_)⟩
  refine ⟨fun i m σ' H' => m + i = ds.length ∧ ∃ s' G' ft', Later C cs G1 H1 ft σ' s' G' H' ft' ∧ FR C cs W G' H' ft' D (forGo vs tg b (ds.drop i) s'), ⟨ds.length, by simp, s1, G1, ft, Later.rfl v1, k1⟩, ?_⟩
  rintro i m σ2 H2 ⟨hm, s2, G2, ft2, l2, k2⟩
  obtain ⟨it, st⟩ := hJ G2 H2 l2.go.gg l2.sv.gh
  cases hd : ds[i]? with
  | none =>
    have hi' : ds.length ≤ i := List.getElem?_eq_none_iff.mp hd
    have ei : i = ds.length := by omega
    subst ei
    rw [List.drop_length] at k2
    exact .inl ⟨st, k2 σ2 G2 H2 ft2 (Later.rfl l2.sv)⟩
  | some d =>
    obtain ⟨go, yl⟩ := it i d hd
    have hlt : i < ds.length := (List.getElem?_eq_some_iff.mp hd).1
    have ed : ds.drop i = d :: ds.drop (i + 1) := by
      rw [List.drop_eq_getElem_cons hlt]
      congr 1
      exact Option.some.inj ((List.getElem?_eq_getElem hlt).symm.trans hd)
    rw [ed] at k2
    unfold forGo at k2
    refine .inr ⟨go, fun σ' H' => m - 1 + (i + 1) = ds.length ∧ ∃ s' G' ft', Later C cs G1 H1 ft σ' s' G' H' ft' ∧ FR C cs W G' H' ft' D (forGo vs tg b (ds.drop (i + 1)) s'), fun σ' H' h => ⟨m - 1, by omega, h⟩, fun x H3 y => ?_⟩
    obtain ⟨G3, al, r⟩ := yl x H3 y
    have l3 := l2.sv.al al
    cases ht : tg d s2.ρ with
    | none => rw [ht] at k2; exact (show False from k2).elim
    | some ρ' =>
      rw [ht] at k2
      dsimp only at k2
      refine hg.run σ2 s2.ρ ρ' _ G3 H3 _ x d _ l3.sv.evc r ht fun σ4 e4 hl hs => ?_
      obtain ⟨ft4, l4⟩ := l3.sv.asg hc e4 hl hs
      have l24 := l3.trans l4
      refine hb.run σ4 _ G3 H3 ft4 _ l4.sv ?_
      have eN : ∀ s', FR C cs W G2 H2 ft2 D (forGo vs tg b (ds.drop (i + 1)) s') → ∀ σ' G' H' ft', Later C cs G3 H3 ft4 σ' s' G' H' ft' → m - 1 + (i + 1) = ds.length ∧ ∃ s' G' ft', Later C cs G1 H1 ft σ' s' G' H' ft' ∧ FR C cs W G' H' ft' D (forGo vs tg b (ds.drop (i + 1)) s') :=
        fun s' h σ' G' H' ft' l => ⟨by omega, s', G', ft', (l2.trans l24).trans l, FR.shift (l24.trans l) h⟩
      cases hbo : b (s2.asg vs ρ') with
      | nx s' => rw [hbo] at k2; exact eN s' k2
      | ct s' => rw [hbo] at k2; exact eN s' k2
      | bk s' => rw [hbo] at k2; exact fun σ' G' H' ft' l => k2 σ' G' H' ft' (l24.trans l)
      | rt d s' => rw [hbo] at k2; exact fun σ' G' H' ft' v l r => k2 σ' G' H' ft' v (l24.trans l) r
      | er x s' => rw [hbo] at k2; exact fun σ' G' H' ft' c e l r => k2 σ' G' H' ft' c e (l24.trans l) r
      | bad => rw [hbo] at k2; exact k2

/-! ### while -/
/-- one turn: on with a state, or an end -/
def whS (cs : Option Nat) (R : List Nat) (ft : M Bool) (b : Ss → Fl) (s : Ss) : Ss ⊕ Fl := match eR cs R (fun _ => true) ft s with
  | .bad => .inr .bad
  | .er x κ => .inr (.er x (s.put cs κ))
  | .ok false κ => .inr (.nx (s.put cs κ))
  | .ok true κ => match b (s.put cs κ) with
    | .nx s' => .inl s'
    | .ct s' => .inl s'
    | .bk s' => .inr (.nx s')
    | .rt d s' => .inr (.rt d s')
    | .er x s' => .inr (.er x s')
    | .bad => .inr .bad
def whGo (f : Ss → Ss ⊕ Fl) : Nat → Ss → Fl
  | 0, _ => .bad
  | n + 1, s => match f s with
    | .inl s' => whGo f n s'
    | .inr o => o
open Classical in
noncomputable def whW (f : Ss → Ss ⊕ Fl) (s : Ss) : Fl := if h : ∃ n, whGo f n s ≠ .bad then whGo f h.choose s else .bad
noncomputable def bWhile (cs : Option Nat) (R : List Nat) (ft : M Bool) (b : Ss → Fl) : Ss → Fl := whW (whS cs R ft b)
theorem whGo_le {f : Ss → Ss ⊕ Fl} : ∀ {n k : Nat} {s : Ss}, whGo f n s ≠ .bad → whGo f (n + k) s = whGo f n s
  | 0, k, s, h => absurd rfl h
  | n + 1, k, s, h => by
    rw [show n + 1 + k = (n + k) + 1 by omega]
    unfold whGo at h ⊢
    cases hf : f s with
    | inl s' =>
      rw [hf] at h
      exact whGo_le h
    | inr o => rfl
theorem whW_of {f : Ss → Ss ⊕ Fl} {n : Nat} {s : Ss} (h : whGo f n s ≠ .bad) : whW f s = whGo f n s := by
  have hx : ∃ n, whGo f n s ≠ .bad := ⟨n, h⟩
  unfold whW
  rw [dif_pos hx]
  have h1 := whGo_le (k := n) hx.choose_spec
  have h2 := whGo_le (k := hx.choose) h
  rw [← h1, ← h2, Nat.add_comm]
theorem whW_eq (f : Ss → Ss ⊕ Fl) (s : Ss) : whW f s = match f s with
    | .inl s' => whW f s'
    | .inr o => o := by
  cases hf : f s with
  | inr o =>
    by_cases ho : o = .bad
    · subst ho
      unfold whW
      rw [dif_neg]
      rintro ⟨n, hn⟩
      cases n with
      | zero => exact hn rfl
      | succ n =>
        unfold whGo at hn
        rw [hf] at hn
        exact hn rfl
    · have e : whGo f 1 s = o := by unfold whGo; rw [hf]
      rw [whW_of (n := 1) (by rw [e]; exact ho), e]
  | inl s' =>
    dsimp only
    by_cases hx : ∃ n, whGo f n s' ≠ .bad
    · obtain ⟨n, hn⟩ := hx
      have e : whGo f (n + 1) s = whGo f n s' := by
        rw [whGo, hf]
      rw [whW_of (n := n + 1) (by rw [e]; exact hn), e, whW_of hn]
    · have h1 : whW f s' = .bad := by unfold whW; rw [dif_neg hx]
      rw [h1]
      unfold whW
      rw [dif_neg]
      rintro ⟨n, hn⟩
      cases n with
      | zero => exact hn rfl
      | succ n =>
        unfold whGo at hn
        rw [hf] at hn
        exact hx ⟨n, hn⟩
theorem sx_while {tc : TT} {tb : TS} {R : List Nat} {fc : M Bool} {b : Ss → Fl} (h : TXt C cs W tc fc) (hb : SXt C cs W tb b) : SXt C cs W (tWhile tc tb) (bWhile cs R fc b) := by
  refine ⟨fun σ s G H ft D v k => ?_⟩
  have hx : ∃ n, FR C cs W G H ft D (whGo (whS cs R fc b) n s) := by
    unfold bWhile whW at k
    split at k
    · exact ⟨_, k⟩
    · exact (show False from k).elim
  obtain ⟨n, hn⟩ := hx
  refine ⟨fun m σ' H' => ∃ s' G' ft', Later C cs G H ft σ' s' G' H' ft' ∧ FR C cs W G' H' ft' D (whGo (whS cs R fc b) m s'), ⟨n, s, G, ft, Later.rfl v, hn⟩, ?_⟩
  rintro m σ1 H1 ⟨s1, G1, ft1, l1, k1⟩
  cases m with
  | zero => exact (show False from k1).elim
  | succ m =>
    unfold whGo whS at k1
    refine tx_use (R := R) h l1.sv ?_
    cases ho : eR cs R (fun _ => true) fc s1 with
    | bad => rw [ho] at k1; exact (show False from k1).elim
    | er x κ =>
      rw [ho] at k1
      exact fun G' H' cls dd l r => k1 σ1 G' H' ft1 cls dd l r
    | ok c κ =>
      rw [ho] at k1
      intro G2 H2 l2
      cases c with
      | false =>
        dsimp only at k1
        rw [if_neg (by decide)]
        exact k1 σ1 G2 H2 ft1 l2
      | true =>
        dsimp only at k1
        rw [if_pos rfl]
        refine ⟨fun σ' H' => ∃ s' G' ft', Later C cs G H ft σ' s' G' H' ft' ∧ FR C cs W G' H' ft' D (whGo (whS cs R fc b) m s'), fun σ' H' h => ⟨m, by omega, h⟩, hb.run σ1 _ G2 H2 ft1 _ l2.sv ?_⟩
        cases hbo : b (s1.put cs κ) with
        | nx s' => rw [hbo] at k1; exact fun σ' G' H' ft' l => ⟨s', G', ft', (l1.trans l2).trans l, FR.shift (l2.trans l) k1⟩
        | ct s' => rw [hbo] at k1; exact fun σ' G' H' ft' l => ⟨s', G', ft', (l1.trans l2).trans l, FR.shift (l2.trans l) k1⟩
        | bk s' => rw [hbo] at k1; exact fun σ' G' H' ft' l => k1 σ' G' H' ft' (l2.trans l)
        | rt d s' => rw [hbo] at k1; exact fun σ' G' H' ft' v l r => k1 σ' G' H' ft' v (l2.trans l) r
        | er x s' => rw [hbo] at k1; exact fun σ' G' H' ft' c e l r => k1 σ' G' H' ft' c e (l2.trans l) r
        | bad => rw [hbo] at k1; exact k1

/-! ### raise -/
/-- the making of an error -/
structure MXt (C : KM) (cs : Option Nat) (W : WX) (t : St → Hp → XK → Prop) (f : M Exn) : Prop where
  run : ∀ (σ : St) (ρ : Sd) (κ : Kp) (G H : Hp) (A : Addr → Prop) (Q : XK), EV C G H cs σ ρ κ A → Res C cs W σ ρ G H A (fun x G' H' => ∀ cls dd, ExR C G' H' cls dd x → Q cls dd H') (f ρ κ) → t σ H Q
def bRaise (cs : Option Nat) (R : List Nat) (f : M Exn) : Ss → Fl := fun s => (eR cs R Exn.free f s).fl cs s fun x s => .er x s
theorem sx_raise {t : St → Hp → XK → Prop} {f : M Exn} {R : List Nat} (h : MXt C cs W t f) : SXt C cs W (fun _ σ H => t σ H fun cls d H' => W cls d σ H') (bRaise cs R f) := by
  refine ⟨fun σ s G H ft D v k => h.run σ _ _ _ _ _ _ (v.ev R) (use_res (R1 := fun x G' H' _ => ∀ cls dd, ExR C G' H' cls dd x → W cls dd σ H') v (use_fl k fun x G' H' s' v' l k' cls dd xr => k' σ G' H' ft cls dd (Later.rfl v') xr) fun x G' G2 H' s' c r cls dd xr => ?_)⟩
  rcases c with c | ⟨_, c1, c2⟩
  · subst c; exact r cls dd xr
  · exact r cls dd (xr.go c2 c1)
end
end G

set_option Elab.async false
set_option linter.all false
set_option maxRecDepth 100000
set_option maxHeartbeats 2000000
/-! An own exception whose __init__ says super().__init__(..) first: its def as a promise. -/
namespace GXS
open PySem PySem.Spec PyProof.Rows L2 NdefX
/-- what is written of the class with that __init__ and its cell -/
structure SupC (P : Program) (K : PySem.W.Frag) (D cc cda : Addr) : Prop where
  cell : ∃ cl cld csl, K.lookup cc = some ⟨cl, cld, .cell (some (.ref D)), csl⟩
  cls : ∃ cdD, PySem.W.clsIn K D = some cdD
  code : ∃ ccl cdd vs ccs file tf, K.lookup cda = some ⟨ccl, cdd, .fields vs, ccs⟩ ∧ vs[2]? = some (.str file tf) ∧ ((P.main.file : Str) == file) = true
  top : (P.main.scope.names.lookup ("super" : Str)).isSome = false
  tp : PySem.W.nsIn K cStatics "thirdparty.any" = some none
/-- .. of the class of the object -/
structure InsC (K : PySem.W.Frag) (D C : Addr) : Prop where
  oex : OexC K C
  sub : PySem.W.mroIn K C (.ref D) = some true
  sup : PySem.W.ks_superIn K C D "__init__" = some (some (.builtin "ValueError.__init__"))
  ve : PySem.W.subIn K (.ref C) (.type "ValueError") = some true
theorem cls_at {K : PySem.W.Frag} {h : Heap} {D : Addr} {cd : ClassData} (X : K.In h) (hD : PySem.W.clsIn K D = some cd) : ∃ oD, h.get? D = some oD ∧ oD.data = .cls cd := by
  unfold PySem.W.clsIn at hD
  split at hD
  · rename_i c d cd' sl ho
    cases hD
    exact ⟨_, X _ _ ho, rfl⟩
  · cases hD
section
variable {X : Cx} {pins : List (Addr × Obj)} {σ : L2.St} {H : Hp} {s : Shared} {a C D cc cda : Addr} {f : Addr}
theorem push_pin {o : Obj} (I : Inv X pins σ H s) (hn : ∀ v, o.data ≠ .cell v) (hf : o.isFreed = false := by rfl) (t' : Nat) : Inv X (pins ++ [(s.heap.objs.size, o)]) σ H { s with heap := s.heap.push o, toks := t' } := by
  have I1 : Inv X pins σ H { s with heap := s.heap.push o, toks := t' } := I.kept fun b u e => Heap.get?_push_of_some _ e
  refine I1.pins_of fun p hp => ?_
  rcases List.mem_append.mp hp with z | z
  · exact I1.pin p (List.mem_append_right _ z)
  · have e : p = (s.heap.objs.size, o) := by simpa using z
    subst e
    exact ⟨Heap.get?_push_size _ hf, I.hok.fresh (Nat.le_refl _), Nat.ne_of_gt I.lt, I.nofs (Nat.le_refl _), hn⟩
/-- super().__init__(args) called on the object at a -/
theorem super_call {us : List Value} {u : Addr} {Q : Value → Shared → Prop} {E : Value → Shared → Prop} {A : Around} (T : OexC X.K C) (I : Inv X pins σ H s) (e : H a = some (exo a C none)) (hu : s.heap.get? u = some (PySem.W.kxs_mw "ValueError.__init__" a)) (hl : us.length ≤ sizeLine)
    (h : ∀ s', Inv X pins σ H s' → Q .none s') : wpAny (model X.prog X.w) A (call (.ref u) us) Q E s := by
  obtain ⟨nm, q, N, bs, bm, sn, sub, ab, col, dd, k0, k1, k2, k3, k5, hC, hbm⟩ := T.cls
  obtain ⟨t1, ho⟩ := exo_at I.hok e
  obtain ⟨hp, g, d, t, os⟩ := s
  refine wpAny_call (codeAny_of_tree ?_)
  show wpAny _ A.in1 (callAny (.ref u) ⟨us, []⟩) _ _ _
  simp only [callAny]
  refine wpAny_bind (wpAny_load hu ?_)
  simp only [PySem.W.kxs_mw, show (Value.type "method-wrapper" == Value.type "method" || Value.type "method-wrapper" == Value.type "builtin_function_or_method" || Value.type "method-wrapper" == Value.type "method-wrapper") = true by decide, if_true]
  refine PySem.W.KFB.if_so (by decide) ?_
  refine wpAny_bind (PySem.W.check_bound_init PySem.F.excBase_ValueError.toExcCallFacts (I.kIn _ _ hC) ho rfl ?_)
  refine wpAny_bind (wpAny_pure (wpAny_pure ?_))
  refine ⟨plainId_quiet PySem.F.excBase_ValueError.init.plain _, codeAny_builtin PySem.F.excBase_ValueError.initEntry ?_⟩
  refine PySem.W.exc_init_tree (cls := .ref C) (t0 := t1) (dv := none) (c2 := .none) (c3 := .none) (b4 := .bool false) ho hl fun h' k hx _ => ?_
  have J := I.write (t' := t) (x := a) (e := a) (o := exo a C none) (by rw [e]; exact True.intro) (.inl rfl) k ⟨_, hx⟩ (exo_ok hx)
  have eu : upd H a (exo a C none) = H := by
    funext b
    by_cases hb : b = a
    · rw [hb, upd_same, e]
    · rw [upd_ne hb]
  rw [eu] at J
  exact h _ J
end
/-- super().__init__(args) as a statement -/
theorem super_st {X : Cx} {σ : L2.St} {H : Hp} {s : Shared} {a C D cc cda f : Addr} {of : Obj} {fd : FuncData} {ar : Arg} {i0 : Nat} {e1 : Expr} {es : List Expr} {body : List Stmt} {p0 p1 p2 p3 p4 : Pos} {ta : TA} {R : Hp → Prop} {pl : Sem Bool} (I : Inv X [] σ H s) (T : SupC X.prog X.K D cc cda) (IC : InsC X.K D C)
    (hks : X.env.kindOf "super" = some .globalImplicit) (hkc : X.env.kindOf "__class__" = some .free) (hkl : X.env.kindOf ar.arg = some .local) (hfu : X.env.func = some f) (hf : s.heap.get? f = some of) (hfd : of.data = .func fd) (hco : X.env.code = .ref cda)
    (hcl : X.env.cells.lookup ("__class__" : Str) = some cc) (har : (fd.params.posonlyargs ++ fd.params.args).head? = some ar) (hN : X.N[i0]? = some ar.arg) (hσ : σ[i0]? = some (some (.ref a))) (hsup : X.mg "super" = none) (ha : H a = some (exo a C none))
    (hpa : PA X (e1 :: es) ta) (hta : ta σ H fun us H1 => us.length ≤ 1000 ∧ H1 a = some (exo a C none) ∧ R H1)
    (he : starEach (e1 :: es) X.env = (false, eval e1 X.env) :: starEach es X.env) (hpl : (backTo p3 (starEach es X.env)).any (·.1) = false)
    (hcall : eval (.Call (.Attribute (.Call (.Name "super" p0) [] [] p1) "__init__" p2) (e1 :: es) [] p3) X.env = (do
      let ov ← attributeBase (.Call (.Name "super" p0) [] [] p1) "__init__" X.env (eval (.Call (.Name "super" p0) [] [] p1) X.env)
      standAt p2.atName
      let (f, first) ← holding [ov] (getMethod ov "__init__" pl)
      callWith p3 f first (backTo p3 (starEach (e1 :: es) X.env)) []))
    (hsw : swapsWith (.Call (.Attribute (.Call (.Name "super" p0) [] [] p1) "__init__" p2) (e1 :: es) [] p3) none p4.line X.env = pure false) :
    _root_.PySem.wpAt (model X.prog X.w) X.A (.func body X.env) (exec (.Expr (.Call (.Attribute (.Call (.Name "super" p0) [] [] p1) "__init__" p2) (e1 :: es) [] p3) p4) X.env) (fun fl s' => fl = .next ∧ ∃ H1, Inv X [] σ H1 s' ∧ R H1) X.xe s := by
  have KX : X.K.In s.heap := I.kIn
  obtain ⟨cl, cld, csl, hcell⟩ := T.cell
  obtain ⟨cdD, hD⟩ := T.cls
  obtain ⟨ccl, cdd, cvs, ccs, file, tf, hcode, hvs, hfile⟩ := T.code
  obtain ⟨oD, hD1, hD2⟩ := cls_at KX hD
  obtain ⟨t1, ho⟩ := exo_at I.hok ha
  obtain ⟨m, hn, hlk⟩ := id I.loc
  obtain ⟨u, ru, lk⟩ := hlk i0 ar.arg _ hN hσ (.inl hkl)
  have eu : u = .ref a := ru
  subst eu
  have hm : m ar.arg = some (.ref a) := by
    rcases lk with ⟨_, h⟩ | ⟨h, _⟩
    · exact h
    · rcases h with h | h <;> (rw [hkl] at h; cases h)
  refine PySem.ks_wpAt_Expr_any (PySem.ks_wpAt_MethodCall (pl := pl) ?_ hcall) I.quiet hsw
  refine PySem.ks_wpAt_super_base (f := f) (cc := cda) hks hkc (by decide) hfu hf hfd har hco (KX _ _ hcode) rfl hvs hfile T.top ?_
  obtain ⟨mb, hb1, hb2⟩ := I.mod.blt
  refine PySem.W.ks_loadName_global I.ok.kind hks (Calls.loadGlobal_builtin (by rw [I.ok.glob]; exact I.mod.glob.keeps I.bk) hsup (by rw [I.ok.blt]; exact hb1.keeps I.bk) ((hb2 _ (by decide)).trans (show bootBuiltins "super" = some (.type "super") by decide +kernel)) ⟨rfl, ?_⟩)
  refine wpAny_loadName_free I.ok.kind hkc hcl ⟨_, KX _ _ hcell, rfl⟩ ?_
  refine wpAny_loadName_local I.ok.kind hkl hn hm ?_
  obtain ⟨hh, g, d, t, os⟩ := s
  refine PySem.ks_wpAny_isType_cls hD1 hD2 ⟨rfl, ?_⟩
  refine PySem.ks_wpAny_call_super hD1 hD2 ho rfl (fun c z => by cases z) (PySem.W.looks_mroIn KX IC.sub) (fun h' e k => ?_)
  have I1 : Inv X [] σ H ⟨h', g, d, t, os⟩ := I.kept (t' := t) k
  have KX1 : X.K.In h' := I1.kIn
  obtain ⟨cdC, hC⟩ : ∃ cdC, PySem.W.clsIn X.K C = some cdC := by
    cases hc : PySem.W.clsIn X.K C with
    | none =>
      have z := IC.sup
      unfold PySem.W.ks_superIn at z
      rw [hc] at z
      cases z
    | some cd => exact ⟨cd, rfl⟩
  have hsp := IC.sup
  unfold PySem.W.ks_superIn at hsp
  rw [hC] at hsp
  have ho' := k _ _ ho
  have IA : PySem.W.InstAt h' a ({ cls := .ref C, dict := none, data := .fields #[.ref t1, .none, .none, .none, .bool false, .none] } : Obj) C none := ⟨ho', rfl, rfl, trivial⟩
  have hI : PySem.W.Looks (model X.prog X.w) h' (isInstance (.ref a) (.type "ValueError")) true := IA.type.andThen (PySem.W.looks_subIn KX1 IC.ve)
  refine PySem.W.kxs_getMethod PySem.W.kxs_ValueError e (PySem.W.looks_opaque KX1 T.tp) (l₀ := cdC.mro) ?_ rfl KX1 hsp hI (PySem.W.ks_ne KX1 IA hC) (by decide) ?_
  · exact fun A Q E s k q => wpAny_bind ((PySem.W.looks_clsIn KX1 hC) A _ E s k (wpAny_pure q))
  have I2 := push_pin I1 (o := PySem.W.kxs_mw "ValueError.__init__" a) (fun v z => by cases z) rfl (t + 1)
  show wpAny _ _ (callWith p3 (.ref h'.objs.size) [] (backTo p3 (starEach (e1 :: es) X.env)) []) _ _ _
  have hplain : (backTo p3 (starEach (e1 :: es) X.env)).any (·.1) = false := by
    rw [he]
    show (false || (backTo p3 (starEach es X.env)).any (·.1)) = false
    rw [hpl]; rfl
  have hh : wpAny (model X.prog X.w) X.A (spliced (backTo p3 (starEach (e1 :: es) X.env))) (fun us s1 => PySem.W.KxsAt "ValueError.__init__" h'.objs.size a s1.heap ∧ wpAny (model X.prog X.w) X.A (call (.ref h'.objs.size) us) (fun _ s' => Flow.next = Flow.next ∧ ∃ H1, Inv X [] σ H1 s' ∧ R H1) X.xe s1) X.xe
      ⟨h'.push (PySem.W.kxs_mw "ValueError.__init__" a), g, d, t + 1, os⟩ := by
    refine thn (hpa.run p3 _ _ σ H _ I2 hta) fun us s2 ⟨vs, H2, I3, rv, hl, ha2, q⟩ => ?_
    have hmw : s2.heap.get? h'.objs.size = some (PySem.W.kxs_mw "ValueError.__init__" a) := (I3.pin (h'.objs.size, _) (List.mem_append_right _ (List.mem_append_right _ (by simp)))).1
    refine ⟨hmw, super_call IC.oex I3 ha2 hmw (by rw [← rv.length, sizeLine_eq]; omega) fun s3 I4 => ⟨rfl, H2, ?_, q⟩⟩
    exact I4.pins_of fun p hp => nomatch hp
  rw [he] at hh hplain ⊢
  exact PySem.W.kxs_callWith (i := "ValueError.__init__") (x := a) hplain (Calls.evalArgs_plain hh)
/-- the promise: the first argument is a fresh object of the class; then the rest of the body runs -/
def spS (K : PySem.W.Frag) (D : Addr) (N : List Str) (n : Nat) (ta : TA) (t : TS) : Sp := fun vs H Q E => vs.length = n ∧ ∃ (a C : Addr) (vr : List V), vs = .ref a :: vr ∧ InsC K D C ∧ H a = some (exo a C none) ∧
  ta (startF N vs [some (.ref D)]) H fun us H1 => us.length ≤ 1000 ∧ H1 a = some (exo a C none) ∧ t { nx := fun _ H' => Q .non H', rt := Q } (startF N vs [some (.ref D)]) H1
section
variable {CX : CXT} {P : Program} {w : World} {K : PySem.W.Frag} {mg : Str → Option Value} {base : Heap} {k : Nat} {f D cc cda : Addr} {name qual : Str} {params : Arguments} {body : List Stmt} {scope : Scope} {dV kV doc pm ct oc : Value} {an od : Option Addr} {osl : Array (Option Value)} {N ps : List Str}
theorem fn_super {e1 : Expr} {es : List Expr} {rest : List Stmt} {ar : Arg} {p0 p1 p2 p3 p4 : Pos} {ta : TA} {t : TS} (lk : K.lookup f = some ⟨oc, od, .func (PySem.W.fnX name qual params body scope [("__class__", cc)] dV kV doc pm an (.ref cda) ct), osl⟩) (hcd : PySem.W.codeIn K (.ref cda) qual = true) (S : NScope N ps ["__class__"] scope)
    (hbd : body = .Expr (.Call (.Attribute (.Call (.Name "super" p0) [] [] p1) "__init__" p2) (e1 :: es) [] p3) p4 :: rest) (T : SupC P K D cc cda) (har : (params.posonlyargs ++ params.args).head? = some ar) (hp0 : ps[0]? = some ar.arg) (hsup : mg "super" = none)
    (hks : scope.names.lookup ("super" : Str) = some .globalImplicit)
    (hargs : ∀ A outer s H E, PA (ncx CX P w K mg base N ⟨name, qual, params, body, scope, [("__class__", cc)], cda⟩ f A outer s H E) (e1 :: es) ta)
    (hrest : ∀ A outer s H E, PSs (ncx CX P w K mg base N ⟨name, qual, params, body, scope, [("__class__", cc)], cda⟩ f A outer s H E) rest t)
    (he : ∀ env, starEach (e1 :: es) env = (false, eval e1 env) :: starEach es env := by intro _; rfl) (hpl : ∀ env, (backTo p3 (starEach es env)).any (·.1) = false := by intro _; rfl)
    {pl : Sem Bool} (hcall : ∀ env, eval (.Call (.Attribute (.Call (.Name "super" p0) [] [] p1) "__init__" p2) (e1 :: es) [] p3) env = (do
      let ov ← attributeBase (.Call (.Name "super" p0) [] [] p1) "__init__" env (eval (.Call (.Name "super" p0) [] [] p1) env)
      standAt p2.atName
      let (f, first) ← holding [ov] (getMethod ov "__init__" pl)
      callWith p3 f first (backTo p3 (starEach (e1 :: es) env)) []) := by intro _; rfl)
    (hsw : ∀ env, swapsWith (.Call (.Attribute (.Call (.Name "super" p0) [] [] p1) "__init__" p2) (e1 :: es) [] p3) none p4.line env = pure false := by intro _; rfl) :
    FnOk P w K mg base CX (k + 1) f (PySem.W.fnX name qual params body scope [("__class__", cc)] dV kV doc pm an (.ref cda) ct) ps (spS K D N ps.length ta t) := by
  refine ⟨fun vs H Q E h => h.1, fun A outer s H args us vs Q E hr e0 hb r hsp => ?_⟩
  obtain ⟨hl, a, C, vr, evs, IC, ha, hta⟩ := hsp
  have KX : K.In s.heap := e0.mod.kin.keeps fun b o e => (e0.bs b o e).1
  have lim : s.heap.NoLimit := e0.mod.nolimit.keeps fun b o e => (e0.bs b o e).1
  obtain ⟨cl, cld, csl, hcell⟩ := T.cell
  obtain ⟨cdD, hD⟩ := T.cls
  obtain ⟨ccl, cdd, cvs, ccs, file, tf, hcode, hvs, hfile⟩ := T.code
  have CA : CellsAt [("__class__", cc)] ["__class__"] [some (.ref D)] s.heap H := by
    have one : ∀ {y : Str} {c : Addr}, List.lookup y [(("__class__" : Str), cc)] = some c → y = "__class__" ∧ c = cc := fun {y c} e => by
      rw [List.lookup_cons] at e
      split at e
      · rename_i hq
        exact ⟨by simpa using hq, (Option.some.inj e).symm⟩
      · cases e
    have lkc : List.lookup ("__class__" : Str) [(("__class__" : Str), cc)] = some cc := by rw [List.lookup_cons]; simp
    refine ⟨rfl, fun y c e => ?_, fun x y c e1 e2 => (one e1).1.trans (one e2).1.symm, fun i y hi => ?_⟩
    · obtain ⟨_, rfl⟩ := one e
      exact ⟨(e0.bs _ _ (e0.mod.kin _ _ hcell)).2, _, _, KX _ _ hcell, rfl⟩
    · cases i with
      | zero =>
        simp at hi
        subst hi
        refine ⟨cc, lkc, fun v hv => ?_⟩
        cases hv
        exact ⟨.ref D, rfl, _, KX _ _ hcell, rfl⟩
      | succ i => simp at hi
  refine codeAny_call_function hr.depth (KX _ _ lk) rfl S.co S.gen rfl (PySem.W.codeRec_of KX hcd) (hb _ _ _ _ ?_)
  refine wpAny_newFunctionEnv S.nocell (fun ⟨n, _⟩ hy => S.par n (List.of_mem_zip hy).1) (fun h₁ hns hsb => ⟨lim.fresh _ hsb, ?_⟩) S.kind
  show codeAny _ _ (.func body (envF ⟨name, qual, params, body, scope, [("__class__", cc)], cda⟩ f s.heap.objs.size)) _ _
  refine PySem.ks_codeAny_funcAt ?_
  have kp : ∀ b o, s.heap.get? b = some o → h₁.get? b = some o := fun b o e => hsb.extBut b o (Nat.ne_of_lt (Heap.lt_size e)) (Heap.get?_push_of_some _ e)
  have I : Inv (ncx CX P w K mg base N ⟨name, qual, params, body, scope, [("__class__", cc)], cda⟩ f A outer s H E) [] (startF N vs [some (.ref D)]) H { s with heap := h₁, toks := s.toks + (ps.zip us).length } := inv_startN S hr.hd e0 hl r CA hns kp
  have ht := hrest A outer s H E
  have hpa := hargs A outer s H E
  subst hbd
  subst evs
  refine PySem.ks_wpAt_execs_cons ?_
  have hN0 : N[0]? = some ar.arg := by
    have q : (N.take (ps.length + 1))[0]? = some ar.arg := by
      have z := S.pre
      rw [show ([Str.ofString "__class__"] : List Str).length = 1 from rfl] at z
      rw [z, List.getElem?_append_left (List.getElem?_eq_some_iff.mp hp0).1]
      exact hp0
    rwa [List.getElem?_take_of_lt (by omega)] at q
  have KX1 := I.kIn
  refine PySem.ks_wpAt_mono (super_st (i0 := 0) (X := ncx CX P w K mg base N ⟨name, qual, params, _, scope, [("__class__", cc)], cda⟩ f A outer s H E) I T IC hks (S.frk _ (by simp)) (S.par _ (List.mem_of_getElem? hp0)) rfl (KX1 _ _ lk) rfl rfl rfl har hN0 rfl hsup ha hpa hta (he _) (hpl _) (hcall _) (hsw _)) (fun fl s' hfl => ?_) fun e s' z => z
  obtain ⟨rfl, H1, J, q⟩ := hfl
  refine PySem.wpAt_of_wpAny (wpAny_mono (ht.run [] _ _ H1 _ J q) (fun fl s' hs => ?_) fun e s' hs => hs)
  have fin : ∀ {bd : List Stmt} {σ' : L2.St} {H' : Hp} {v : V} {u : Value}, Inv (ncx CX P w K mg base N ⟨name, qual, params, bd, scope, [("__class__", cc)], cda⟩ f A outer s H E) [] σ' H' s' → L2.RelV v u → Q v H' → CE outer P w H s Q u s' :=
    fun {bd σ' H' v u} J rv q => ⟨v, H', J.os, J.bare, J.base, J.hok, rv, q⟩
  cases fl with
  | ret u =>
    obtain ⟨v, σ', H', J, rv, q⟩ := hs
    exact fin J rv q
  | next =>
    obtain ⟨σ', H', J, q⟩ := hs
    exact fin (v := V.non) (u := Value.none) J rfl q
  | brk =>
    obtain ⟨_, _, _, q⟩ := hs
    exact False.elim q
  | cont =>
    obtain ⟨_, _, _, q⟩ := hs
    exact False.elim q
end
end GXS

set_option Elab.async false
set_option linter.all false
set_option maxRecDepth 100000
/-! Errors: made, caught. -/
namespace G
open PySem PySem.Spec PyProof.Rows L2 RZ GXS
section
variable {X : Cx} {cs : Option Nat} {W : WX} {es : List Expr} {e : Expr} {fs : M (List D)} {pos : Pos}
def MX (X : Cx) (cs : Option Nat) (W : WX) (e : Expr) (f : M Exn) : Prop := ∃ t, PMk X e t ∧ MXt (Cx.C X) cs W t f
/-- an error of class cls with its fields from the arguments -/
def dExn (cls : Str) (names : List Str) (ds : List D) : Option Exn := if ds.length = names.length then some ⟨cls, (names.zip ds).reverse⟩ else none
def eExn (g : List D → Option Exn) (fa : M (List D)) : M Exn := fun ρ κ => (fa ρ κ).bind fun xs κ => if noCel xs = true then ofO (g xs) κ else .bad
theorem upd_del {H1 H2 : Hp} {a d : Addr} {o : HO} (ha : H1 a = none) (hd : d ≠ a) (h : ∀ b, b ≠ a → b ≠ d → H2 b = H1 b) : upd (del H2 a) d o = upd H1 d o := by
  funext b
  by_cases hb : b = d
  · rw [hb, upd_same, upd_same]
  · rw [upd_ne hb, upd_ne hb]
    by_cases hba : b = a
    · rw [hba, del_same, ha]
    · rw [del_ne hba, h b hba hb]
theorem zip_rep {C : KM} {G : Hp} : ∀ {names : List Str} {vs : List V} {ds : List D} {n : Str} {y : D}, Reps C G vs ds → ∀ (accv : List (Str × V)) (accd : List (Str × D)), (∀ n y, accd.lookup n = some y → ∃ v, accv.lookup n = some v ∧ Rep C G v y) →
    ((names.zip ds).reverse ++ accd).lookup n = some y → ∃ v, ((names.zip vs).reverse ++ accv).lookup n = some v ∧ Rep C G v y
  | [], vs, ds, n, y, r, accv, accd, ha, h => by simpa using ha n y (by simpa using h)
  | nm :: names, [], ds, n, y, r, accv, accd, ha, h => by
    cases r
    simpa using ha n y (by simpa using h)
  | nm :: names, v :: vs, ds, n, y, r, accv, accd, ha, h => by
    cases r with
    | cons r rr =>
      rename_i d ds
      rw [List.zip_cons_cons, List.reverse_cons, List.append_assoc] at h
      obtain ⟨v', h1, h2⟩ := zip_rep rr ((nm, v) :: accv) ((nm, d) :: accd) (fun n y e => by
        rw [List.lookup_cons] at e ⊢
        split at e
        · rename_i hq
          cases e
          exact ⟨v, rfl, r⟩
        · rename_i hq
          exact ha n y e) (by simpa using h)
      refine ⟨v', ?_, h2⟩
      rw [List.zip_cons_cons, List.reverse_cons, List.append_assoc]
      simpa using h1

/-- self.f = the parameter -/
theorem passes_no : Passes (L2.CX X.prog X.w) X (fun _ _ _ => False) := fun pins σ H s e s' I c => takes_none5 e s' (XE.of_call (σ := σ) I (fun _ _ _ h => h) c)
/-- the body of an __init__ with one field, two fields -/
abbrev bd1 (K : PySem.W.Frag) (f : Str) : TS := tOst K f (tVar 0) (tVar 1)
abbrev bd2 (K : PySem.W.Frag) (f1 f2 : Str) : TS := tSeq (tOst K f1 (tVar 0) (tVar 1)) (tOst K f2 (tVar 0) (tVar 2))
abbrev N1 (f : Str) : List Str := ["self", f, "__class__"]
abbrev N2 (f1 f2 : Str) : List Str := ["self", f1, f2, "__class__"]
theorem sp_1 {K : PySem.W.Frag} {D C a : Addr} {f : Str} {y : V} {H : Hp} {Q : VK} {E : XK} (T : InsC K D C) (hno : PySem.W.findIn K (.ref C) f = some none) (ha : H a = some (exo a C none))
    (q : ∀ d, H d = none → d ≠ a → Q .non (upd (upd H d (exd d [(f, y)])) a (exo a C (some d)))) : spS K D (N1 f) 2 (tCons (tVar 1) tNil) (bd1 K f) [.ref a, y] H Q E := by
  refine ⟨rfl, a, C, [y], rfl, T, ha, ⟨y, rfl, ?_⟩⟩
  exact ⟨by simp, ha, ⟨y, rfl, ⟨.ref a, rfl, a, C, rfl, T.oex, hno, .inl ⟨ha, fun d n ne => q d n ne⟩⟩⟩⟩
theorem sp_2 {K : PySem.W.Frag} {D C a : Addr} {f1 f2 : Str} {y z : V} {H : Hp} {Q : VK} {E : XK} (T : InsC K D C) (hno1 : PySem.W.findIn K (.ref C) f1 = some none) (hno2 : PySem.W.findIn K (.ref C) f2 = some none) (ha : H a = some (exo a C none))
    (q : ∀ d, H d = none → d ≠ a → Q .non (upd (upd (upd H d (exd d [(f1, y)])) a (exo a C (some d))) d (exd d [(f2, z), (f1, y)]))) : spS K D (N2 f1 f2) 3 (tCons (tVar 1) (tCons (tVar 2) tNil)) (bd2 K f1 f2) [.ref a, y, z] H Q E := by
  refine ⟨rfl, a, C, [y, z], rfl, T, ha, ⟨y, rfl, ⟨z, rfl, ?_⟩⟩⟩
  refine ⟨by simp, ha, ⟨y, rfl, ⟨.ref a, rfl, a, C, rfl, T.oex, hno1, .inl ⟨ha, fun d n ne => ⟨z, rfl, ⟨.ref a, rfl, a, C, rfl, T.oex, hno2, .inr ⟨d, [(f1, y)], upd_same, ?_, by simp, q d n ne⟩⟩⟩⟩⟩⟩⟩
  rw [upd_ne ne, upd_same]
section
variable {C0 : KM}
theorem make_run {ta : TA} {sp : Sp} {cls : Str} {names : List Str} {Cd : Addr} {f : M (List D)} (hm : (Cx.C X).mg cls = some (.ref Cd)) (hn : names.length ≤ 900)
    (hsp : ∀ (a : Addr) (vs : List V) (H1 : Hp) (Q : VK) (E : XK), vs.length = names.length → H1 a = none → (∀ d H2, H1 d = none → d ≠ a → (∀ b, b ≠ a → b ≠ d → H2 b = H1 b) → H2 a = some (exo a Cd (some d)) → H2 d = some (exd d (names.zip vs).reverse) → Q .non H2) →
      sp (.ref a :: vs) (upd H1 a (exo a Cd none)) Q E) (h : AXt (Cx.C X) cs W ta f) : MXt (Cx.C X) cs W (tMkO Cd sp [] ta) (eExn (dExn cls names) f) := by
  refine ⟨fun σ ρ κ G H A Q e k => h.run σ ρ κ G H A _ e (Res.mono (Res.bind k) ?_)⟩
  intro ds G1 H1 _ ⟨κ1, e1, k1⟩ vs rvs
  by_cases hnc : noCel ds = true
  · rw [if_pos hnc] at k1
    have r := rvs.reps hnc
    unfold dExn at k1
    by_cases hl : ds.length = names.length
    · rw [if_pos hl] at k1
      have hlv : vs.length = names.length := r.length.trans hl
      refine ⟨by omega, fun a ha => ?_⟩
      rw [List.append_nil]
      refine hsp a vs H1 _ _ hlv ha fun d H2 hd hne hk h2a h2d => ⟨rfl, d, _, h2a, h2d, hd, ?_⟩
      rw [upd_del ha hne hk]
      have al := Al.new (o := HO.xd (names.zip vs).reverse) e1.gh hd
      refine k1 _ _ (al.go A) (e1.al al) _ _ ⟨Cd, d, _, hm, rfl, rfl, upd_same, fun n y hy => ?_⟩
      have := zip_rep (r.mono al.gg) [] [] (fun n y e => nomatch e) (by simpa using hy)
      simpa using this
    · rw [if_neg hl] at k1
      exact (show False from k1).elim
  · rw [if_neg hnc] at k1
    exact (show False from k1).elim
end
section
variable {xs : List Str} {sc : Scope} {cls f1 f2 : Str} {p : Pos} {Cd Dd fI : Addr} {k : Nat} {fd : FuncData} {CX : CXT}
theorem mx_make1 (i : Nat) (h : glB xs sc = true) (T : InsC X.K Dd Cd) (iC : PySem.W.findIn X.K (.ref Cd) "__init__" = some (some (.ref fI))) (tI : PySem.W.typeIn X.K (.ref fI) = some (.type "function")) (hno : PySem.W.findIn X.K (.ref Cd) f1 = some none)
    (F1 : FnOk X.prog X.w X.K X.mg X.base (L2.CX X.prog X.w) k fI fd ["self", f1] (spS X.K Dd (N1 f1) 2 (tCons (tVar 1) tNil) (bd1 X.K f1))) (hr : Room (k + 1) X.A) (hb : Binds X.K fd ["self", f1] []) (hm : X.mg cls = some (.ref Cd)) (ha : AX X cs W (e :: es) fs)
    (esc : X.env.scope = sc := by rfl) (hi : xs[i]? = some cls := by rfl) (he : starEach (e :: es) X.env = (false, eval e X.env) :: starEach es X.env := by rfl) (hpl : (backTo pos (starEach es X.env)).any (·.1) = false := by rfl) :
    MX X cs W (.Call (.Name cls p) (e :: es) [] pos) (eExn (dExn cls [f1]) fs) := by
  obtain ⟨h1, h2, h3⟩ := gl_of h hi esc
  obtain ⟨ta, pa, ra⟩ := ha
  refine ⟨_, pmk_oex (ds := []) (dvs := []) T.oex iC tI F1 hr hb .nil passes_no h1 hm pa h2 he hpl, make_run hm (by simp) (fun a vs H1 Q E hl hn q => ?_) ra⟩
  match vs, hl with
  | [y], _ =>
    refine sp_1 T hno upd_same fun d hd hne => ?_
    rw [upd_ne hne] at hd
    refine q d _ hd hne (fun b h1 h2 => ?_) upd_same ?_
    · rw [upd_ne h1, upd_ne h2, upd_ne h1]
    · rw [upd_ne hne, upd_same]
      rfl
theorem mx_make2 (i : Nat) (h : glB xs sc = true) (T : InsC X.K Dd Cd) (iC : PySem.W.findIn X.K (.ref Cd) "__init__" = some (some (.ref fI))) (tI : PySem.W.typeIn X.K (.ref fI) = some (.type "function")) (hno1 : PySem.W.findIn X.K (.ref Cd) f1 = some none) (hno2 : PySem.W.findIn X.K (.ref Cd) f2 = some none)
    (F1 : FnOk X.prog X.w X.K X.mg X.base (L2.CX X.prog X.w) k fI fd ["self", f1, f2] (spS X.K Dd (N2 f1 f2) 3 (tCons (tVar 1) (tCons (tVar 2) tNil)) (bd2 X.K f1 f2))) (hr : Room (k + 1) X.A) (hb : Binds X.K fd ["self", f1, f2] []) (hm : X.mg cls = some (.ref Cd)) (ha : AX X cs W (e :: es) fs)
    (esc : X.env.scope = sc := by rfl) (hi : xs[i]? = some cls := by rfl) (he : starEach (e :: es) X.env = (false, eval e X.env) :: starEach es X.env := by rfl) (hpl : (backTo pos (starEach es X.env)).any (·.1) = false := by rfl) :
    MX X cs W (.Call (.Name cls p) (e :: es) [] pos) (eExn (dExn cls [f1, f2]) fs) := by
  obtain ⟨h1, h2, h3⟩ := gl_of h hi esc
  obtain ⟨ta, pa, ra⟩ := ha
  refine ⟨_, pmk_oex (ds := []) (dvs := []) T.oex iC tI F1 hr hb .nil passes_no h1 hm pa h2 he hpl, make_run hm (by simp) (fun a vs H1 Q E hl hn q => ?_) ra⟩
  match vs, hl with
  | [y, z], _ =>
    refine sp_2 T hno1 hno2 upd_same fun d hd hne => ?_
    rw [upd_ne hne] at hd
    refine q d _ hd hne (fun b h1 h2 => ?_) ?_ upd_same
    · rw [upd_ne h2, upd_ne h1, upd_ne h2, upd_ne h1]
    · rw [upd_ne (Ne.symm hne), upd_same]
end
end
end G

set_option Elab.async false
set_option linter.all false
set_option maxRecDepth 100000
set_option maxHeartbeats 1000000
/-! Errors caught: several clauses, each with a name or without. -/
namespace G
open PySem PySem.Spec PyProof.Rows L2 RZ GXS
abbrev Hand := Value × Option Nat × (Addr → Value → Option Addr → TS)
/-- the ends of a suite whose clause names slot i -/
def endsAs (i : Nat) (D : Ends) : Ends := { nx := fun σ H => D.nx (σ.set i none) H, rt := D.rt, bk := fun σ H => D.bk (σ.set i none) H, ct := fun σ H => D.ct (σ.set i none) H }
/-- what the clauses wish, from the first on -/
def wAll (K : PySem.W.Frag) (Wout : WX) (D : Ends) : List Hand → WX
  | [] => Wout
  | (c, none, ts) :: r => fun cls d σ H => ∃ b, PySem.W.exmOne K cls c = some b ∧ (b = true → ∀ a, H a = none → ts a cls d D σ H) ∧ (b = false → wAll K Wout D r cls d σ H)
  | (c, some i, ts) :: r => fun cls d σ H => ∃ b, PySem.W.exmOne K cls c = some b ∧ (b = true → ∀ a, H a = none → ts a cls d (endsAs i D) (σ.set i (some (.ref a))) H) ∧ (b = false → wAll K Wout D r cls d σ H)
/-- a suite runs in every context that holds an error -/
def SuiteOk (X : Cx) (suite : List Stmt) (ts : Addr → Value → Option Addr → TS) : Prop := ∀ (a : Addr) (oe : Obj) (cls : Value) (d : Option Addr) (pn : List (Addr × Obj)), Zc cls d oe → (∃ vs, oe.data = .fields vs) → PSs (X.suite a ((a, oe) :: pn)) suite (ts a cls d)
inductive HandsOk (X : Cx) : List ExceptHandler → List Hand → Prop
  | nil : HandsOk X [] []
  | bare {x : Str} {c : Value} {ts : Addr → Value → Option Addr → TS} {b₀ : Stmt} {suite : List Stmt} {np pos' : Pos} {hds : List ExceptHandler} {l : List Hand} (hc : Names X x c) (hsu : SuiteOk X (b₀ :: suite) ts) (r : HandsOk X hds l) :
      HandsOk X (.ExceptHandler (some (.Name x np)) none (b₀ :: suite) pos' :: hds) ((c, none, ts) :: l)
  | as {x n : Str} {c : Value} {i : Nat} {ts : Addr → Value → Option Addr → TS} {b₀ : Stmt} {suite : List Stmt} {np pos' : Pos} {hds : List ExceptHandler} {l : List Hand} (hc : Names X x c) (hi : X.N[i]? = some n) (hln : X.env.kindOf n = some .local) (hsu : SuiteOk X (b₀ :: suite) ts) (r : HandsOk X hds l) :
      HandsOk X (.ExceptHandler (some (.Name x np)) (some n) (b₀ :: suite) pos' :: hds) ((c, some i, ts) :: l)
section
variable {X : Cx} {body : List Stmt} {h₀ : ExceptHandler} {hds : List ExceptHandler} {l : List Hand} {pos : Pos} {tb : WX → TS} {Wout : WX}
theorem ps_tryA (hs : X.stack = X.env :: X.outer) (hf : X.env.frame = some X.env.locals) (hN : X.N.Nodup) (tk : Takes X Wout)
    (hb : ∀ (W : WX) (pn : List (Addr × Obj)) (xe : Value → Shared → Prop), Takes (X.tr pn xe) W → PassesOwn (model X.prog X.w) X.A X.env xe → PSs (X.tr pn xe) body (tb W))
    (hh : HandsOk X (h₀ :: hds) l) : PS X (.Try body (h₀ :: hds) [] [] pos) (fun D σ H => tb (wAll X.K Wout D l) D σ H) := by
  refine ⟨fun pins s σ H D I h => ?_⟩
  have ok := I.ok
  have hfr : X.A.frames = some (X.env :: X.outer) := by rw [ok.frames, hs]
  have looking : PassesOwn (model X.prog X.w) X.A X.env (fun e s₁ => wpAny (model X.prog X.w) X.A (noteFrame e X.env) (fun _ s₂ => wpAny (model X.prog X.w) X.A (setFlight e none) (fun _ s₃ =>
    wpAny (model X.prog X.w) X.A (handleBy e X.env (h₀ :: hds)) (SP X pins D) X.xe s₃) X.xe s₂) X.xe s₁) := PassesOwn.looking
  refine wpAny_Try_except (wpAny_mono ((hb (wAll X.K Wout D l) (X.pn ++ pins) _ (fun u s' xx => ?_) looking).run [] s σ H D (I.toTry _) h) (fun f s1 hsp => ?_) (fun e s1 he => he))
  · -- an error of the body
    obtain ⟨a, B, sI, pins', σ', H', cls, d, rfl, J', nb, up, sky, na, os, ag, w⟩ := xx
    have J : Inv X pins σ' H' sI := J'.ofTry ok
    have sky' : Sky B (X.env :: X.outer) a (Zc cls d) X.env.locals s'.heap := by rw [← hs]; exact sky
    show wpAny (model X.prog X.w) X.A (noteFrame (.ref a) X.env) _ _ _
    refine Sky.land Zc.steady hfr hf sky' fun h3 fl3 up3 => ?_
    have J3 : Inv X pins σ' H' { s' with heap := h3 } := J.landed nb fl3.1 (up.trans up3) os ag
    obtain ⟨oe3, vs3, he3, hz3, hd3⟩ := fl3.there
    have nfr : a ∉ frs (X.env :: X.outer) := fun hm => by
      obtain ⟨_, o', e', hnf⟩ := fl3.2.2.1.mem hm
      rw [he3] at e'; cases e'
      exact hnf _ hd3
    have nL : a ≠ X.env.locals := fun z => nfr (List.mem_filterMap.mpr ⟨X.env, List.mem_cons_self, by rw [hf, z]⟩)
    have nF : a ∉ X.fs := fun hm => by
      obtain ⟨e, he, q⟩ := List.mem_filterMap.mp hm
      exact nfr (List.mem_filterMap.mpr ⟨e, List.mem_cons_of_mem _ he, q⟩)
    have S3 := J3.suite he3 hd3 na nL nF
    -- a suite is entered
    have enter : ∀ {Q : Shared → Prop}, (∀ h4, Inv X pins σ' H' { s' with heap := h4 } → ∀ oe vs, h4.get? a = some oe → Zc cls d oe → oe.data = .fields vs → Q { s' with heap := h4 }) →
        wpAny (model X.prog X.w) X.A (setFlight (.ref a) none) (fun _ s4 => Q s4) (notedBy (model X.prog X.w) X.A X.env fun x s' => X.xe x s') { s' with heap := h3 } := fun {Q} k => by
      refine HandSPX.lands_againZ fl3 fun h4 fl4 up4 => ?_
      obtain ⟨oe4, vs4, he4, hz4, hd4⟩ := fl4.there
      exact k h4 (J.landed nb fl4.1 ((up.trans up3).trans up4) os ag) oe4 vs4 he4 hz4 hd4
    have go : ∀ {hds' : List ExceptHandler} {l' : List Hand}, HandsOk X hds' l' → wAll X.K Wout D l' cls d σ' H' →
        wpAny (model X.prog X.w) X.A (handleBy (.ref a) X.env hds') (SP X pins D) X.xe { s' with heap := h3 } := by
      intro hds' l' hk
      have LT : PySem.W.Looks (model X.prog X.w) h3 (typeOf (.ref a)) cls := fun A Q E s k q => wpAny_typeOf_ref (k _ _ he3) (by rw [hz3.1]; exact q)
      have test : ∀ {x : Str} {c : Value} {np : Pos} {Q : Value → Shared → Prop} {E : Value → Shared → Prop}, Names X x c → Q c { s' with heap := h3 } → wpAny (model X.prog X.w) (X.A.mark (some (.ref a))) (eval (.Name x np) X.env) Q E { s' with heap := h3 } := fun {x c np Q E} hc q => by
        obtain ⟨hg, hdbg, hm | ⟨hm, hv, hnn⟩⟩ := hc
        · exact ld_glob (X := X.suite a ((a, oe3) :: (X.pn ++ pins))) S3 hg hm q hdbg
        · exact ld_blt (X := X.suite a ((a, oe3) :: (X.pn ++ pins))) S3 hg hm hv q hnn hdbg
      induction hk with
      | nil =>
        intro w
        refine wpAny_handleBy_nil ?_
        obtain ⟨k1, k2, k3, oe, vs, T, oT, ts', he, hz, hd, h1, hr⟩ := id fl3
        unfold PySem.passOn
        refine wpAny_bind (wpAny_field he hd h1 ?_)
        rw [if_neg (show ¬ ((Value.ref T == Value.none) = true) from by simp)]
        have fin : wpAny (model X.prog X.w) X.A (setFlight (.ref a) X.env.frame) (fun _ s4 => wpAny (model X.prog X.w) X.A (throw (.ref a) : Sem Flow) (SP X pins D) X.xe s4) X.xe { s' with heap := h3 } := by
          rw [hf]
          refine HandSPX.setFlight_upZ fl3 fun h4 hh4 up4 => wpAny_throw (tk _ _ ?_)
          exact ⟨a, B, sI, pins, σ', H', cls, d, rfl, J, nb, (up.trans up3).trans up4, .inr (.inr (by rw [hs]; exact hh4)), na, os, ag, w⟩
        first
          | exact wpAny_bind (wpAny_pure (wpAny_bind fin))
          | exact wpAny_bind fin
      | bare hc hsu r ih =>
        rintro ⟨b, hb1, hyes, hno⟩
        refine wpAny_handleBy_cons (codeAny_handlers_test ?_) (by intro q; cases q)
        refine test hc ((PySem.W.exm_one (M := model X.prog X.w) (J3.kIn) LT hb1).here ?_)
        cases b with
        | false => exact ih (hno rfl)
        | true =>
          refine codeAny_handlers_suite ?_
          refine HandSPX.lands_againZ fl3 fun h4 fl4 up4 => ?_
          have J4 : Inv X pins σ' H' { s' with heap := h4 } := J.landed nb fl4.1 ((up.trans up3).trans up4) os ag
          obtain ⟨oe4, vs4, he4, hz4, hd4⟩ := fl4.there
          have S4 := J4.suite he4 hd4 na nL nF
          refine wpAny_mono ((hsu a oe4 cls d (X.pn ++ pins) hz4 ⟨_, hd4⟩).run [] _ _ H' _ S4 (hyes rfl a na)) (fun f s6 hsp => ?_) (fun _ _ z => False.elim z)
          cases f with
          | next =>
            obtain ⟨σ6, H6, S6, q6⟩ := hsp
            exact ⟨_, _, S6.unsuite ok, q6⟩
          | brk =>
            obtain ⟨σ6, H6, S6, q6⟩ := hsp
            exact ⟨_, _, S6.unsuite ok, q6⟩
          | cont =>
            obtain ⟨σ6, H6, S6, q6⟩ := hsp
            exact ⟨_, _, S6.unsuite ok, q6⟩
          | ret u =>
            obtain ⟨v6, σ6, H6, S6, r6, q6⟩ := hsp
            exact ⟨_, _, _, S6.unsuite ok, r6, q6⟩
      | @as x n c i ts b₀ suite np pos' hds2 l2 hc hi hln hsu r ih =>
        rintro ⟨b, hb1, hyes, hno⟩
        refine wpAny_handleBy_cons (codeAny_handlers_test ?_) (by intro q; cases q)
        refine test hc ((PySem.W.exm_one (M := model X.prog X.w) (J3.kIn) LT hb1).here ?_)
        cases b with
        | false => exact ih (hno rfl)
        | true =>
          refine codeAny_handlers_suite_as ?_
          refine HandSPX.lands_againZ fl3 fun h4 fl4 up4 => ?_
          have J4 : Inv X pins σ' H' { s' with heap := h4 } := J.landed nb fl4.1 ((up.trans up3).trans up4) os ag
          obtain ⟨oe4, vs4, he4, hz4, hd4⟩ := fl4.there
          have S4 := J4.suite he4 hd4 na nL nF
          refine store_ok (X := X.suite a ((a, oe4) :: (X.pn ++ pins))) (v := .ref a) S4 hN hi (.inl hln) rfl (fun s5 S5 => ?_) (.inr hln)
          refine wpAny_mono ((hsu a oe4 cls d (X.pn ++ pins) hz4 ⟨_, hd4⟩).run [] s5 _ H' _ S5 (hyes rfl a na)) (fun f s6 hsp => ?_) (fun _ _ z => False.elim z)
          have end_ : ∀ {σ6 : St} {H6 : Hp} {Q : Shared → Prop}, Inv (X.suite a ((a, oe4) :: (X.pn ++ pins))) [] σ6 H6 s6 → (∀ s7, Inv X pins (σ6.set i none) H6 s7 → Q s7) →
              wpAny (model X.prog X.w) X.A (do bindName X.env n .none; unbindBehindTheSuite X.env n pos') (fun _ s7 => Q s7) X.xe s6 := fun {σ6 H6 Q} S6 hq => gone_ok (S6.unsuite ok) hN hi hln hq
          cases f with
          | next =>
            obtain ⟨σ6, H6, S6, q6⟩ := hsp
            exact end_ S6 fun s7 J7 => ⟨_, _, J7, q6⟩
          | brk =>
            obtain ⟨σ6, H6, S6, q6⟩ := hsp
            exact end_ S6 fun s7 J7 => ⟨_, _, J7, q6⟩
          | cont =>
            obtain ⟨σ6, H6, S6, q6⟩ := hsp
            exact end_ S6 fun s7 J7 => ⟨_, _, J7, q6⟩
          | ret u =>
            obtain ⟨v6, σ6, H6, S6, r6, q6⟩ := hsp
            exact end_ S6 fun s7 J7 => ⟨_, _, _, J7, r6, q6⟩
    exact go hh w
  · cases f with
    | next =>
      obtain ⟨σ', H', J', q⟩ := hsp
      exact wpAny_execs_nil ⟨σ', H', J'.ofTry ok, q⟩
    | brk =>
      obtain ⟨σ', H', J', q⟩ := hsp
      exact ⟨σ', H', J'.ofTry ok, q⟩
    | cont =>
      obtain ⟨σ', H', J', q⟩ := hsp
      exact ⟨σ', H', J'.ofTry ok, q⟩
    | ret u =>
      obtain ⟨v, σ', H', J', r, q⟩ := hsp
      exact ⟨v, σ', H', J'.ofTry ok, r, q⟩
end
end G

set_option Elab.async false
set_option linter.all false
set_option maxRecDepth 100000
/-! try on data: suites that give a value made of the error. -/
namespace G
open PySem PySem.Spec PyProof.Rows L2 RZ GXS
theorem ExR.al {C : KM} {G H G' H' : Hp} {cls : Value} {dd : Option Addr} {x : Exn} (h : ExR C G H cls dd x) (a : Al G H G' H') : ExR C G' H' cls dd x := by
  obtain ⟨c, d, fs, h1, h2, h3, h4, h5⟩ := h
  exact ⟨c, d, fs, h1, h2, h3, a.hh _ _ h4, fun n y e => let ⟨v, e1, r⟩ := h5 n y e; ⟨v, e1, r.mono a.gg⟩⟩
/-- an expression of a suite whose slot i holds the error x -/
structure HXt (C : KM) (i : Nat) (a : Addr) (cls : Value) (dd : Option Addr) (x : Exn) (t : TE) (o : Option D) : Prop where
  run : ∀ (σ : St) (G H : Hp) (Q : VK) (y : D), Sub G H → σ[i]? = some (some (.ref a)) → ExR C G H cls dd x → o = some y → (∀ G' H' v, Al G H G' H' → Rep C G' v y → Q v H') → t σ H Q
structure HAt (C : KM) (i : Nat) (a : Addr) (cls : Value) (dd : Option Addr) (x : Exn) (t : TA) (o : Option (List D)) : Prop where
  run : ∀ (σ : St) (G H : Hp) (Q : List V → Hp → Prop) (ys : List D), Sub G H → σ[i]? = some (some (.ref a)) → ExR C G H cls dd x → o = some ys → (∀ G' H' vs, Al G H G' H' → Reps C G' vs ys → Q vs H') → t σ H Q
structure HTt (C : KM) (i : Nat) (a : Addr) (cls : Value) (dd : Option Addr) (x : Exn) (t : TT) (o : Option Bool) : Prop where
  run : ∀ (σ : St) (G H : Hp) (Q : Bool → Hp → Prop) (b : Bool), Sub G H → σ[i]? = some (some (.ref a)) → ExR C G H cls dd x → o = some b → (∀ G' H', Al G H G' H' → Q b H') → t σ H Q
/-- in every context that holds an error -/
def InS (X : Cx) (P : Cx → Addr → Value → Option Addr → Prop) : Prop := ∀ (a : Addr) (oe : Obj) (cls : Value) (d : Option Addr) (pn : List (Addr × Obj)), Zc cls d oe → (∃ vs, oe.data = .fields vs) → P (X.suite a ((a, oe) :: pn)) a cls d
def HE (X : Cx) (i : Nat) (e : Expr) (g : Exn → Option D) : Prop := ∃ t : Addr → Value → Option Addr → TE, InS X (fun Y a cls d => PE Y e (t a cls d)) ∧ ∀ a cls dd x, HXt (Cx.C X) i a cls dd x (t a cls dd) (g x)
def HA (X : Cx) (i : Nat) (es : List Expr) (g : Exn → Option (List D)) : Prop := ∃ t : Addr → Value → Option Addr → TA, InS X (fun Y a cls d => PA Y es (t a cls d)) ∧ ∀ a cls dd x, HAt (Cx.C X) i a cls dd x (t a cls dd) (g x)
def HT (X : Cx) (i : Nat) (e : Expr) (g : Exn → Option Bool) : Prop := ∃ t : Addr → Value → Option Addr → TT, InS X (fun Y a cls d => PT Y e (t a cls d)) ∧ ∀ a cls dd x, HTt (Cx.C X) i a cls dd x (t a cls dd) (g x)
section
variable {X : Cx} {i : Nat} {e : Expr} {es : List Expr} {pos : Pos}
theorem he_c {v : V} {d : D} (h : ∀ Y : Cx, PE Y e (tC v)) (r : ∀ G, Rep (Cx.C X) G v d) : HE X i e (fun _ => some d) :=
  ⟨fun _ _ _ => tC v, fun _ _ _ _ _ _ _ => h _, fun a cls dd x => ⟨fun σ G H Q y s hi xr ho k => by cases ho; exact k G H v (Al.rfl s) (r G)⟩⟩
theorem he_int {n j} : HE X i (.Constant (.int n) j pos) (fun _ => some (.int n)) := he_c (fun _ => pe_int) fun _ => .int n
theorem he_bl {n j} : HE X i (.Constant (.bool n) j pos) (fun _ => some (.bl n)) := he_c (fun _ => pe_bl) fun _ => .bl n
theorem he_non {j} : HE X i (.Constant .none j pos) (fun _ => some .non) := he_c (fun _ => pe_non) fun _ => .non
theorem he_str {n j} : HE X i (.Constant (.str n) j pos) (fun _ => some (.str n)) := he_c (fun _ => pe_str) fun _ => .str n
/-- e.f, e of the class cls -/
theorem he_fld {x f cls : Str} {p : Pos} {Cd : Addr} (hN : X.N[i]? = some x) (hv : X.env.scope.names.lookup x = some .local) (hm : X.mg cls = some (.ref Cd)) (T : XfC X.K Cd) (hno : PySem.W.findIn X.K (.ref Cd) f = some none)
    (hd : (x == ("__debug__" : Str)) = false := by decide) (hcd : (x == ("__classdict__" : Str)) = false := by decide) (hb : ∀ Y : Cx, attributeBase (.Name x p) f Y.env (eval (.Name x p) Y.env) = eval (.Name x p) Y.env := by intro _; rfl) :
    HE X i (.Attribute (.Name x p) f pos) (fun y => if y.cls = cls then y.fs.lookup f else none) := by
  refine ⟨fun a c d => tXf a c d Cd f (tVar i), fun a oe c d pn hz hf => pe_xf T hno hz hf (pe_var hN (.inl hv) hd hcd) (hb _), fun a c dd y => ⟨fun σ G H Q z s hi xr ho k => ?_⟩⟩
  obtain ⟨c0, d0, fs, h1, h2, h3, h4, h5⟩ := xr
  dsimp only at ho
  split at ho
  · rename_i hc
    rw [hc] at h1
    have e0 : (Cx.C X).mg cls = X.mg cls := rfl
    rw [e0, hm] at h1
    cases h1
    obtain ⟨v, e1, r⟩ := h5 f z ho
    exact ⟨.ref a, hi, rfl, h2, d0, fs, v, h3, h4, e1, k G H v (Al.rfl s) r⟩
  · cases ho
theorem ha_nil : HA X i [] (fun _ => some []) := ⟨fun _ _ _ => tNil, fun _ _ _ _ _ _ _ => pa_nil, fun a cls dd x => ⟨fun σ G H Q y s hi xr ho k => by cases ho; exact k G H [] (Al.rfl s) .nil⟩⟩
def gCons2 (g : Exn → Option D) (gs : Exn → Option (List D)) : Exn → Option (List D) := fun x => (g x).bind fun y => (gs x).map (y :: ·)
theorem ha_cons {g : Exn → Option D} {gs : Exn → Option (List D)} (h : HE X i e g) (hr : HA X i es gs) (hs : ∀ Y : Cx, starEach (e :: es) Y.env = (false, eval e Y.env) :: starEach es Y.env := by intro _; rfl) : HA X i (e :: es) (gCons2 g gs) := by
  obtain ⟨t, p, q⟩ := h
  obtain ⟨ts, ps, qs⟩ := hr
  refine ⟨fun a c d => tCons (t a c d) (ts a c d), fun a oe c d pn hz hf => pa_cons (p a oe c d pn hz hf) (ps a oe c d pn hz hf) (hs _), fun a c dd x => ⟨fun σ G H Q ys s hi xr ho k => ?_⟩⟩
  obtain ⟨y, h1, h2⟩ := Option.bind_eq_some_iff.mp ho
  obtain ⟨zs, h3, h4⟩ := Option.map_eq_some_iff.mp h2
  subst h4
  refine (q a c dd x).run σ G H _ y s hi xr h1 fun G1 H1 v al r => (qs a c dd x).run σ G1 H1 _ zs al.gh hi (xr.al al) h3 fun G2 H2 vs al2 rs => ?_
  exact k G2 H2 _ (al.trans al2) (.cons (r.mono al2.gg) rs)
theorem he_tup {k : Nat} {gs : Exn → Option (List D)} (h : HA X i es gs) : HE X i (.Tuple es k pos) (fun x => (gs x).bind dTup) := by
  obtain ⟨ts, ps, qs⟩ := h
  refine ⟨_, fun a oe c d pn hz hf => pe_tup (ps a oe c d pn hz hf), fun a c dd x => ⟨fun σ G H Q y s hi xr ho kk => ?_⟩⟩
  obtain ⟨zs, h1, h2⟩ := Option.bind_eq_some_iff.mp ho
  unfold dTup at h2
  split at h2
  · rename_i hl
    cases h2
    refine (qs a c dd x).run σ G H _ zs s hi xr h1 fun G1 H1 vs al rs => ⟨by rw [rs.length]; exact hl, fun p hp => ?_⟩
    exact kk _ _ _ (al.trans (Al.new al.gh hp)) (.tup (.of upd_same) (by rw [rs.length]; exact hl) (rs.mono (Sub.new (free_of al.gh hp))))
  · cases h2
theorem he_if {c a b : Expr} {gc : Exn → Option Bool} {ga gb : Exn → Option D} (hc : HT X i c gc) (ha : HE X i a ga) (hb : HE X i b gb) : HE X i (.IfExp c a b pos) (fun x => (gc x).bind fun q => if q = true then ga x else gb x) := by
  obtain ⟨tc, pc, qc⟩ := hc
  obtain ⟨ta, pa, qa⟩ := ha
  obtain ⟨tb, pb, qb⟩ := hb
  refine ⟨_, fun a oe c d pn hz hf => pe_ifExp (pc a oe c d pn hz hf) (pa a oe c d pn hz hf) (pb a oe c d pn hz hf), fun a c dd x => ⟨fun σ G H Q y s hi xr ho k => ?_⟩⟩
  obtain ⟨q, h1, h2⟩ := Option.bind_eq_some_iff.mp ho
  refine (qc a c dd x).run σ G H _ q s hi xr h1 fun G1 H1 al => ?_
  cases q with
  | true =>
    rw [if_pos rfl] at h2 ⊢
    exact (qa a c dd x).run σ G1 H1 Q y al.gh hi (xr.al al) h2 fun G2 H2 v al2 r => k G2 H2 v (al.trans al2) r
  | false =>
    rw [if_neg (by decide)] at h2 ⊢
    exact (qb a c dd x).run σ G1 H1 Q y al.gh hi (xr.al al) h2 fun G2 H2 v al2 r => k G2 H2 v (al.trans al2) r
/-- isinstance(e, c) -/
def rIsX (K : PySem.W.Frag) (cls : Value) (dd : Option Addr) (a : Addr) : List V → Hp → VK → Prop := fun xs H Q => ∃ (Dc d : Addr) (fs : List (Str × V)) (c : V) (cv : Value) (b : Bool), cls = .ref Dc ∧ dd = some d ∧ H d = some (.xd fs) ∧ ExcC K Dc ∧ xs = [.ref a, c] ∧ (∀ u, RelV c u → u = cv) ∧ PySem.W.kitOne K cls cv = some b ∧ Q (.bl b) H
theorem call_isX {a : Addr} {oe : Obj} {cls : Value} {dd : Option Addr} {pn : List (Addr × Obj)} (hz : Zc cls dd oe) (hf : ∃ vs, oe.data = .fields vs) : CallR (X.suite a ((a, oe) :: pn)) (.builtin "isinstance") (rIsX X.K cls dd a) := by
  intro pins s σ H xs us Q I r h
  obtain ⟨Dc, d, fs, c, cv, b, rfl, rfl, hd, C, rfl, hcv, e, q⟩ := h
  cases r with
  | cons rx rr =>
    cases rr with
    | cons rt rr =>
      cases rr
      cases rx
      have ec := hcv _ rt
      subst ec
      obtain ⟨hget, _⟩ := I.pin (a, oe) (List.mem_append.mpr (.inl List.mem_cons_self))
      obtain ⟨vs, hv⟩ := hf
      have hx : ObjOk X.prog X.w H s.heap d (.xd fs) := I.hok d _ hd
      obtain ⟨mA, hns, hr⟩ := hx
      obtain ⟨od, ho, hl⟩ := lookIn_ns hns
      have J : PySem.W.InstAt s.heap a oe Dc (some od) := ⟨hget, hz.1, by unfold PySem.W.notCls; rw [hv] <;> rfl, by rw [hz.2]; exact ho⟩
      have hcl : (PySem.W.clsIn X.K Dc).isSome = true := by
        obtain ⟨cd, hc, _⟩ := PySem.W.any_some C.hd
        rw [hc]; rfl
      exact PySem.W.kia_one (PySem.W.kitx_exc hcl C.hg C.hk C.hs C.ha C.hn C.ht C.hm) I.kIn J e (fun z => nomatch z) fun tk => ⟨.bl b, H, I.kept (t' := tk) fun _ _ z => z, rfl, q⟩
/-- what isinstance says: the classes of which it is true, all that may come -/
structure IsT (C : KM) (all cat : List Str) (cv : Value) : Prop where
  ok : ∀ n ∈ all, ∀ c, C.mg n = some (.ref c) → ExcC C.K c ∧ PySem.W.kitOne C.K (.ref c) cv = some (cat.contains n)
theorem ht_isi {xs : List Str} {sc : Scope} {x cl : Str} {p p2 p3 : Pos} {all cat : List Str} {cv : Value} (j m : Nat) (hg : glB xs sc = true) (hN : X.N[i]? = some x) (hv : X.env.scope.names.lookup x = some .local) (hmi : X.mg "isinstance" = none)
    (hcl : (X.mg cl = some cv ∧ ∃ c, cv = .ref c) ∨ (X.mg cl = none ∧ bootBuiltins cl = some cv ∧ ∃ T, cv = .type T)) (T : IsT (Cx.C X) all cat cv) (esc : X.env.scope = sc := by rfl) (hj : xs[j]? = some (Str.ofString "isinstance") := by rfl) (hm : xs[m]? = some cl := by rfl)
    (hd : (x == ("__debug__" : Str)) = false := by decide) (hcd : (x == ("__classdict__" : Str)) = false := by decide)
    (hs1 : ∀ Y : Cx, starEach [.Name x p2, .Name cl p3] Y.env = (false, eval (.Name x p2) Y.env) :: starEach [.Name cl p3] Y.env := by intro _; rfl) (hs2 : ∀ Y : Cx, starEach [.Name cl p3] Y.env = (false, eval (.Name cl p3) Y.env) :: starEach [] Y.env := by intro _; rfl)
    (hpl : ∀ Y : Cx, (backTo pos (starEach [.Name cl p3] Y.env)).any (·.1) = false := by intro _; rfl) :
    HE X i (.Call (.Name "isinstance" p) [.Name x p2, .Name cl p3] [] pos) (fun y => if all.contains y.cls = true then some (.bl (cat.contains y.cls)) else none) := by
  obtain ⟨h1, h2, h3⟩ := gl_of hg hj esc
  obtain ⟨k1, k2, k3⟩ := gl_of hg hm esc
  -- the class as a value
  have cval : ∃ v : V, RelV v cv ∧ ∀ u, RelV v u → u = cv := by
    rcases hcl with ⟨_, c, rfl⟩ | ⟨_, _, T1, rfl⟩
    · exact ⟨.ref c, rfl, fun u h => h⟩
    · exact ⟨.ty T1, rfl, fun u h => h⟩
  obtain ⟨v, rv, uv⟩ := cval
  have pc : ∀ Y : Cx, Y.mg = X.mg → Y.env = X.env → PE Y (.Name cl p3) (tC v) := fun Y em ee => by
    rcases hcl with ⟨hc, _⟩ | ⟨hc, hb, _⟩
    · exact pe_glob (by rw [Gl, ee]; exact k1) (by rw [em]; exact hc) rv k2
    · exact pe_bltn (by rw [Gl, ee]; exact k1) (by rw [em]; exact hc) hb rv k3 k2
  refine ⟨fun a c d => tCB (rIsX X.K c d a) (tCons (tVar i) (tCons (tC v) tNil)), fun a oe c d pn hz hf => ?_, fun a c dd y => ⟨fun σ G H Q z s hi xr ho k => ?_⟩⟩
  · exact pe_callB (X := X.suite a ((a, oe) :: pn)) (call_isX hz hf) h1 hmi (by decide +kernel) (pa_cons (pe_var hN (.inl hv) hd hcd) (pa_cons (pc _ rfl rfl) pa_nil (hs2 _)) (hs1 _)) h3 h2 (hs1 _) (hpl _)
  · obtain ⟨c0, d0, fs, g1, g2, g3, g4, g5⟩ := xr
    dsimp only at ho
    split at ho
    · rename_i hal
      cases ho
      obtain ⟨e1, e2⟩ := T.ok _ (List.contains_iff_mem.mp hal) c0 g1
      subst g2
      exact ⟨.ref a, hi, c0, d0, fs, v, cv, _, rfl, g3, g4, e1, rfl, uv, e2, k G H _ (Al.rfl s) (.bl _)⟩
    · cases ho

theorem ht_of {g : Exn → Option D} (h : HE X i e g) (he : ∀ (Y : Cx) whole, isTrue e Y.env whole = (do let v ← whole; standAt e.pos; holding [v] (truthy v)) := by intro _ _; rfl) : HT X i e (fun x => (g x).bind dBool) := by
  obtain ⟨t, p, q⟩ := h
  refine ⟨fun a c d σ H Q => t a c d σ H fun x H' => ∃ k, TruV X.K x H' k ∧ Q k H', fun a oe c d pn hz hf => pt_truth (p a oe c d pn hz hf) (he _), fun a c dd x => ⟨fun σ G H Q b s hi xr ho k => ?_⟩⟩
  obtain ⟨y, h1, h2⟩ := Option.bind_eq_some_iff.mp ho
  refine (q a c dd x).run σ G H _ y s hi xr h1 fun G1 H1 v al r => ?_
  cases y with
  | bl b' =>
    cases h2
    exact ⟨b, dTru_ok (C := Cx.C X) al.gh r rfl, k G1 H1 al⟩
  | _ => cases h2
end

/-! ### the statement -/
/-- a suite that returns what g makes of the error -/
structure HSt (C : KM) (i : Option Nat) (a : Addr) (cls : Value) (dd : Option Addr) (x : Exn) (t : TS) (o : Option D) : Prop where
  run : ∀ (σ : St) (G0 H : Hp) (E : Ends) (y : D), Sub G0 H → (∀ j, i = some j → σ[j]? = some (some (.ref a))) → ExR C G0 H cls dd x → o = some y → (∀ G' H' v, Al G0 H G' H' → Rep C G' v y → E.rt v H') → t E σ H
def HS (X : Cx) (i : Option Nat) (suite : List Stmt) (g : Exn → Option D) : Prop := ∃ t : Addr → Value → Option Addr → TS, SuiteOk X suite t ∧ ∀ a cls dd x, HSt (Cx.C X) i a cls dd x (t a cls dd) (g x)
section
variable {X : Cx} {i : Nat} {e : Expr} {pos : Pos}
theorem hs_ret {g : Exn → Option D} (h : HE X i e g) : HS X (some i) [.Return (some e) pos] g := by
  obtain ⟨t, p, q⟩ := h
  exact ⟨fun a c d => tRet (t a c d), fun a oe c d pn hz hf => pss_one (ps_ret (p a oe c d pn hz hf)), fun a c dd x => ⟨fun σ G H D y s hi xr ho k => (q a c dd x).run σ G H _ y s (hi i rfl) xr ho k⟩⟩
theorem hs_bl {b j pos'} : HS X none [.Return (some (.Constant (.bool b) j pos')) pos] (fun _ => some (.bl b)) :=
  ⟨fun a c d => tRet (tC (.bl b)), fun a oe c d pn hz hf => pss_one (ps_ret pe_bl), fun a c dd x => ⟨fun σ G H D y s hi xr ho k => by cases ho; exact k G H _ (Al.rfl s) (.bl b)⟩⟩
end
/-- the clauses on data: the classes that each catches, its slot, what it gives -/
abbrev HRow := List Str × Option Nat × (Exn → Option D)
def Ss.wipe1 (i : Option Nat) (s : Ss) : Ss := match i with
  | none => s
  | some j => s.asg [j] (s.ρ.set j none)
def hGo (x : Exn) (s : Ss) : List HRow → Fl
  | [] => .er x s
  | (cat, i, g) :: r => if cat.contains x.cls = true then (match g x with
      | some d => if (match i with | none => true | some j => decide (j < s.ρ.length)) = true then .rt d (s.wipe1 i) else .bad
      | none => .bad) else hGo x s r
def bTry (all : List Str) (hs : List HRow) (b : Ss → Fl) : Ss → Fl := fun s => match b s with
  | .er x s' => if all.contains x.cls = true then hGo x s' hs else .bad
  | o => o
/-- which classes a clause catches -/
structure CatT (C : KM) (all cat : List Str) (cv : Value) : Prop where
  ok : ∀ n ∈ all, ∀ c, C.mg n = some (.ref c) → PySem.W.exmOne C.K (.ref c) cv = some (cat.contains n)
inductive RowsOk (C : KM) (cs : Option Nat) (all : List Str) : List Hand → List HRow → Prop
  | nil : RowsOk C cs all [] []
  | cons {cv : Value} {i : Option Nat} {t : Addr → Value → Option Addr → TS} {cat : List Str} {g : Exn → Option D} {l : List Hand} {r : List HRow} (hc : CatT C all cat cv) (hi : ∀ j, i = some j → csOk cs j = true) (h : ∀ a cls dd x, HSt C i a cls dd x (t a cls dd) (g x)) (hr : RowsOk C cs all l r) :
      RowsOk C cs all ((cv, i, t) :: l) ((cat, i, g) :: r)
theorem EV.drop {C : KM} {G H : Hp} {cs : Option Nat} {σ : St} {ρ : Sd} {κ : Kp} {A : Addr → Prop} {i : Nat} {v : Option V} (e : EV C G H cs σ ρ κ A) (hc : csOk cs i = true) : EV C G H cs (σ.set i v) (ρ.set i none) κ A := by
  refine ⟨e.gh, fun j d h => ?_, ?_, by simp [e.ln]⟩
  · rcases set_some h with ⟨_, h⟩ | ⟨q, h⟩
    · cases h
    · obtain ⟨w, h1, h2⟩ := e.sl j d h
      exact ⟨w, by rw [List.getElem?_set_ne q]; exact h1, h2⟩
  · have ce := e.ce
    cases κ with
    | none => exact ce
    | some ds =>
      obtain ⟨c, a, vs, h1, h2, h3⟩ := ce
      exact ⟨c, a, vs, h1, by rw [List.getElem?_set_ne (fun q => csOk_ne hc h1 q.symm)]; exact h2, h3⟩
section
variable {C : KM} {cs : Option Nat} {W : WX}
theorem rows_run {all : List Str} {l : List Hand} {r : List HRow} {D : Ends} {x : Exn} (hr : RowsOk C cs all l r) (ha : all.contains x.cls = true) : ∀ {G H : Hp} {ft : Nat → List Addr} {σ : St} {s : Ss} {cls : Value} {dd : Option Addr}, SV C G H cs σ s ft → ExR C G H cls dd x → FR C cs W G H ft D (hGo x s r) → wAll C.K W D l cls dd σ H := by
  induction hr with
  | nil =>
    intro G H ft σ s cls dd v xr h
    exact h σ G H ft cls dd (Later.rfl v) xr
  | @cons cv i t cat g l r hc hi hg hr ih =>
    intro G H ft σ s cls dd v xr h
    obtain ⟨c0, d0, fs, g1, g2, g3, g4, g5⟩ := id xr
    have e := hc.ok _ (List.contains_iff_mem.mp ha) c0 g1
    rw [← g2] at e
    unfold hGo at h
    cases hcat : cat.contains x.cls with
    | false =>
      rw [hcat, if_neg (by decide)] at h
      rw [hcat] at e
      have nx := ih v xr h
      cases i with
      | none => exact ⟨false, e, (fun z => nomatch z), fun _ => nx⟩
      | some j => exact ⟨false, e, (fun z => nomatch z), fun _ => nx⟩
    | true =>
      rw [hcat, if_pos rfl] at h
      rw [hcat] at e
      cases hgx : g x with
      | none => rw [hgx] at h; exact (show False from h).elim
      | some y =>
        rw [hgx] at h
        dsimp only at h
        cases i with
        | none =>
          rw [if_pos rfl] at h
          refine ⟨true, e, fun _ a ha => (hg a cls dd x).run σ G H D y v.gh (fun j z => nomatch z) xr hgx fun G' H' w al rw' => ?_, (fun z => nomatch z)⟩
          exact h σ G' H' ft w (v.al al) rw'
        | some j =>
          by_cases hj : j < s.ρ.length
          case neg =>
            rw [if_neg (show ¬ (decide (j < s.ρ.length)) = true by simpa using hj)] at h
            exact (show False from h).elim
          rw [if_pos (show decide (j < s.ρ.length) = true from decide_eq_true hj)] at h
          have cj := hi j rfl
          refine ⟨true, e, fun _ a ha => ?_, (fun z => nomatch z)⟩
          obtain ⟨ft', l'⟩ := v.asg (vs := [j]) (ρ' := s.ρ.set j none) (σ' := σ.set j (some (.ref a))) (fun c e hm => csOk_ne cj e (by simpa using hm)) (v.evc.drop cj) (by simp) fun k hk => List.getElem?_set_ne fun q => hk (by simp [q])
          refine (hg a cls dd x).run _ G H _ y v.gh (fun k z => ?_) xr hgx fun G' H' w al rw' => ?_
          · cases z
            exact List.getElem?_set_self (by rw [v.ln]; exact hj)
          · exact h _ G' H' ft' w (l'.trans (l'.sv.al al)) rw'
theorem sx_try {tb : WX → TS} {b : Ss → Fl} {all : List Str} {l : List Hand} {r : List HRow} (hr : RowsOk C cs all l r) (hb : ∀ W, SXt C cs W (tb W) b) : SXt C cs W (fun D σ H => tb (wAll C.K W D l) D σ H) (bTry all r b) := by
  refine ⟨fun σ s G H ft D v k => (hb _).run σ s G H ft D v ?_⟩
  unfold bTry at k
  cases hbo : b s with
  | nx s' => rw [hbo] at k; exact k
  | bk s' => rw [hbo] at k; exact k
  | ct s' => rw [hbo] at k; exact k
  | rt d s' => rw [hbo] at k; exact k
  | bad => rw [hbo] at k; exact k
  | er x s' =>
    rw [hbo] at k
    dsimp only at k
    split at k
    · rename_i ha
      exact fun σ' G' H' ft' cls dd l xr => rows_run hr ha l.sv xr (FR.shift l k)
    · exact (show False from k).elim
end
end G

set_option Elab.async false
set_option linter.all false
set_option maxRecDepth 100000
/-! Defs: what they promise on data, how they are called. -/
namespace G
open PySem PySem.Spec PyProof.Rows L2 RZ GXS
/-- a program's module as it stands -/
structure Mo where
  P : Program
  w : World
  K : PySem.W.Frag
  mg : Str → Option Value
  base : Heap
abbrev Mo.C (m : Mo) : KM := ⟨m.K, m.mg⟩
/-- a def kept: like FnOk, with nothing being shown around -/
structure FnG (m : Mo) (k : Nat) (f : Addr) (fd : FuncData) (ps : List Str) (sp : Sp) : Prop where
  len : ∀ vs H Q E, sp vs H Q E → vs.length = ps.length
  run : ∀ (A : Around) (outer : List Env) (s : Shared) (H : Hp) (args : Args) (us : List Value) (vs : List V) (Q : VK) (E : XK), A.guards = some [] → Room k A → Env0 m.P m.w m.K m.mg m.base A outer s H → BindsTo s fd args (ps.zip us) → Vals vs us → sp vs H Q E →
    codeAny (model m.P m.w) A (.call (.ref f) args) (CR (L2.CX m.P m.w) outer m.P m.w H s Q E) s
theorem FnG.mono {m : Mo} {j k : Nat} {f : Addr} {fd : FuncData} {ps : List Str} {sp : Sp} (F : FnG m j f fd ps sp) (h : j ≤ k) : FnG m k f fd ps sp := ⟨F.len, fun A outer s H args us vs Q E hg hr => F.run A outer s H args us vs Q E hg (hr.mono h)⟩
/-- the context of a def's body -/
abbrev cxG (m : Mo) (N : List Str) (qual : Str) (scope : Scope) (f : Addr) (cd : Value) (A : Around) (outer : List Env) (s : Shared) (H : Hp) (E : XK) : Cx := cxOf (L2.CX m.P m.w) m.P m.w m.K m.mg m.base N qual scope f cd A outer s H E
theorem fng_of {m : Mo} {k : Nat} {f : Addr} {name qual : Str} {params : Arguments} {body : List Stmt} {scope : Scope} {dV kV doc pm cdv ct oc : Value} {an od : Option Addr}
    {osl : Array (Option Value)} {N ps : List Str} {sp : Sp} (lk : m.K.lookup f = some ⟨oc, od, .func (PySem.W.fnOf name qual params body scope dV kV doc pm an cdv ct), osl⟩) (hcd : PySem.W.codeIn m.K cdv qual = true) (S : FnScope N ps scope)
    (len : ∀ vs H Q E, sp vs H Q E → vs.length = ps.length)
    (hbody : ∀ (A : Around) (outer : List Env) (s : Shared) (H : Hp) (vs : List V) (Q : VK) (E : XK), A.guards = some [] → Room k (A.deeper (envOfC qual scope s.heap.objs.size f cdv)) → sp vs H Q E →
      ∃ t, PSs (cxG m N qual scope f cdv A outer s H E) body t ∧ t { nx := fun _ H' => Q .non H', rt := Q } (start N vs) H) :
    FnG m (k + 1) f (PySem.W.fnOf name qual params body scope dV kV doc pm an cdv ct) ps sp := by
  refine ⟨len, fun A outer s H args us vs Q E hg hr e0 hb r hsp => ?_⟩
  have hl := len _ _ _ _ hsp
  have kp0 : ∀ b o, m.base.get? b = some o → s.heap.get? b = some o := fun b o e => (e0.bs b o e).1
  have KX : m.K.In s.heap := e0.mod.kin.keeps kp0
  have lim : s.heap.NoLimit := e0.mod.nolimit.keeps kp0
  refine codeAny_call_function hr.depth (KX _ _ lk) rfl S.co S.gen rfl (PySem.W.codeRec_of KX hcd) (hb _ _ _ _ ?_)
  refine wpAny_newFunctionEnv_cells S.kind (fun y hy => ?_) fun env he s1 x => ?_
  · obtain ⟨n, v⟩ := y
    rcases S.par n (List.of_mem_zip hy).1 with q | q
    · exact .inl q
    · exact .inr ⟨q, PySem.W.cellsFrom_some _ _ _ (.inl q)⟩
  subst he
  obtain ⟨t, ht, hq⟩ := hbody A outer s H vs Q E hg (hr.deeper _) hsp
  have I : Inv (cxG m N qual scope f cdv A outer s H E) [] (start N vs) H s1 := inv_start S hr.hd e0 hl r x
  have fin : ∀ {σ' : L2.St} {H' : Hp} {v : V} {u : Value} {s' : Shared}, Inv (cxG m N qual scope f cdv A outer s H E) [] σ' H' s' → RelV v u → Q v H' → CE outer m.P m.w H s Q u s' :=
    fun {σ' H' v u s'} J rv q => ⟨v, H', J.os, J.bare, J.base, J.hok, rv, q⟩
  refine ⟨lim.keeps x.toInCall.keep, codeAny_func (wpAny_mono (ht.run [] s1 (start N vs) H _ I hq) (fun fl s' hs => ?_) fun e s' hs => hs)⟩
  cases fl with
  | next =>
    obtain ⟨σ', H', J, q⟩ := hs
    exact fin (v := V.non) (u := Value.none) J rfl q
  | ret u =>
    obtain ⟨v, σ', H', J, rv, q⟩ := hs
    exact fin J rv q
  | brk =>
    obtain ⟨_, _, _, q⟩ := hs
    exact q.elim
  | cont =>
    obtain ⟨_, _, _, q⟩ := hs
    exact q.elim

/-! ### the promise on data -/
/-- the cell that is handed over -/
def CelA (C : KM) (G H : Hp) (A : Addr → Prop) : Kp → Prop
  | none => ∀ a, ¬ A a
  | some ds => ∃ a vs, H a = some (.lst vs) ∧ vs.length ≤ sizeLine ∧ Reps C G vs ds ∧ G a = none ∧ ∀ b, A b ↔ b = a
def ResF (C : KM) (G H : Hp) (A : Addr → Prop) (Q : VK) (E : XK) : Out D → Prop
  | .ok d κ => ∀ G' H' v, Go G H A G' H' A → Sub G' H' → CelA C G' H' A κ → Rep C G' v d → Q v H'
  | .er x κ => ∀ G' H' cls dd, Go G H A G' H' A → Sub G' H' → CelA C G' H' A κ → ExR C G' H' cls dd x → E cls dd H'
  | .bad => False
def spD (C : KM) (n : Nat) (g : List D → Kp → Out D) : Sp := fun vs H Q E => vs.length = n ∧ ∃ (G : Hp) (A : Addr → Prop) (ds : List D) (κ : Kp), Sub G H ∧ ArgsR C G A vs ds ∧ CelA C G H A κ ∧ ResF C G H A Q E (g ds κ)
abbrev FnD (m : Mo) (k : Nat) (f : Addr) (fd : FuncData) (ps : List Str) (g : List D → Kp → Out D) : Prop := FnG m k f fd ps (spD m.C ps.length g)
/-- where the cell stands among the arguments -/
def D.isCel : D → Bool
  | .cel => true
  | _ => false
def celB (c : Option Nat) : Nat → List D → Bool
  | _, [] => true
  | j, d :: r => (d.isCel == (c == some j)) && celB c (j + 1) r
def hasC (c : Option Nat) (κ : Kp) (n : Nat) : Bool := match c, κ with
  | none, none => true
  | some i, some _ => decide (i < n)
  | _, _ => false
def argR : List D → Sd
  | [] => []
  | d :: r => (if d.isCel = true then none else some d) :: argR r
def argW (κ : Kp) : List D → Sd
  | [] => []
  | d :: r => (if d.isCel = true then κ.map .lst else none) :: argW κ r
def s0 (N : Nat) (ds : List D) (κ : Kp) : Ss := ⟨argR ds ++ List.replicate (N - ds.length) none, argW κ ds ++ List.replicate (N - ds.length) none⟩
/-- the def on data; cp: its parameter is the cell -/
def fdef (N : Nat) (cs : Option Nat) (cp : Bool) (b : Ss → Fl) : List D → Kp → Out D := fun ds κ =>
  if (celB (if cp = true then cs else none) 0 ds && hasC (if cp = true then cs else none) κ ds.length) = true then
    match b (s0 N ds κ) with
    | .nx s' => .ok .non (if cp = true then s'.cell cs [] else none)
    | .rt d s' => .ok d (if cp = true then s'.cell cs [] else none)
    | .er x s' => .er x (if cp = true then s'.cell cs [] else none)
    | _ => .bad
  else .bad
theorem argR_len : ∀ ds : List D, (argR ds).length = ds.length
  | [] => rfl
  | d :: r => by unfold argR; rw [List.length_cons, List.length_cons, argR_len r]
theorem argW_len {κ : Kp} : ∀ ds : List D, (argW κ ds).length = ds.length
  | [] => rfl
  | d :: r => by unfold argW; rw [List.length_cons, List.length_cons, argW_len r]
theorem ArgsR.length {C : KM} {G : Hp} {A : Addr → Prop} {vs : List V} {ds : List D} (h : ArgsR C G A vs ds) : vs.length = ds.length := by
  induction h with
  | nil => rfl
  | val _ _ ih => simp only [List.length_cons, ih]
  | cel _ _ ih => simp only [List.length_cons, ih]
theorem rep_cel {C : KM} {G : Hp} {v : V} {d : D} (h : Rep C G v d) : d.isCel = false := by cases h <;> rfl
theorem args_data {C : KM} {G : Hp} {A : Addr → Prop} {vs : List V} {ds : List D} (h : ArgsR C G A vs ds) : ∀ {i : Nat} {d : D}, (argR ds)[i]? = some (some d) → ∃ v, vs[i]? = some v ∧ Rep C G v d := by
  induction h with
  | nil => intro i d h; simp [argR] at h
  | @val v vs d ds r t ih =>
    intro i d' h
    unfold argR at h
    rw [rep_cel r] at h
    cases i with
    | zero =>
      simp at h
      subst h
      exact ⟨v, rfl, r⟩
    | succ i => simpa using ih (by simpa using h)
  | @cel a vs ds ha t ih =>
    intro i d' h
    unfold argR at h
    cases i with
    | zero => simp [D.isCel] at h
    | succ i => simpa using ih (by simpa using h)
theorem args_cel {C : KM} {G : Hp} {A : Addr → Prop} {κ : Kp} {c : Option Nat} {vs : List V} {ds : List D} (h : ArgsR C G A vs ds) : ∀ {j i : Nat} {d : D}, celB c j ds = true → (argW κ ds)[i]? = some (some d) → c = some (j + i) ∧ ∃ a cds, vs[i]? = some (.ref a) ∧ A a ∧ κ = some cds ∧ d = .lst cds := by
  induction h with
  | nil => intro j i d _ h; simp [argW] at h
  | @val v vs d ds r t ih =>
    intro j i d' hc h
    unfold argW at h
    unfold celB at hc
    obtain ⟨_, hc⟩ := Bool.and_eq_true_iff.mp hc
    cases i with
    | zero =>
      rw [rep_cel r] at h
      simp at h
    | succ i =>
      obtain ⟨e, a, cds, q⟩ := ih (j := j + 1) (i := i) hc (by simpa using h)
      exact ⟨by rw [e, show j + 1 + i = j + (i + 1) by omega], a, cds, by simpa using q⟩
  | @cel a vs ds ha t ih =>
    intro j i d' hc h
    unfold argW at h
    unfold celB at hc
    obtain ⟨h1, hc⟩ := Bool.and_eq_true_iff.mp hc
    cases i with
    | zero =>
      have e : c = some j := by
        have : (c == some j) = true := by simpa [D.isCel] using h1
        simpa using this
      cases κ with
      | none => simp [D.isCel] at h
      | some cds =>
        simp [D.isCel] at h
        exact ⟨by simpa using e, a, cds, rfl, ha, rfl, h.symm⟩
    | succ i =>
      obtain ⟨e, a', cds, q⟩ := ih (j := j + 1) (i := i) hc (by simpa using h)
      exact ⟨by rw [e, show j + 1 + i = j + (i + 1) by omega], a', cds, by simpa using q⟩
theorem args_at {C : KM} {G : Hp} {A : Addr → Prop} {κ : Kp} {c : Nat} {vs : List V} {ds : List D} (h : ArgsR C G A vs ds) : ∀ {j i : Nat}, celB (some c) j ds = true → c = j + i → i < ds.length → (argW κ ds)[i]? = some (κ.map .lst) := by
  induction h with
  | nil => intro j i _ _ h; simp at h
  | @val v vs d ds r t ih =>
    intro j i hc hij hl
    unfold celB at hc
    obtain ⟨h1, hc⟩ := Bool.and_eq_true_iff.mp hc
    cases i with
    | zero =>
      have e : c = j := by omega
      subst e
      rw [rep_cel r] at h1
      simp at h1
    | succ i =>
      unfold argW
      simpa using ih (j := j + 1) (i := i) hc (by omega) (by simpa using hl)
  | @cel a vs ds ha t ih =>
    intro j i hc hij hl
    unfold celB at hc
    obtain ⟨h1, hc⟩ := Bool.and_eq_true_iff.mp hc
    cases i with
    | zero => unfold argW; simp [D.isCel]
    | succ i =>
      unfold argW
      simpa using ih (j := j + 1) (i := i) hc (by omega) (by simpa using hl)
end G

set_option Elab.async false
set_option linter.all false
set_option maxRecDepth 100000
/-! A def by its body; calls. -/
namespace G
open PySem PySem.Spec PyProof.Rows L2 RZ GXS
section
variable {C : KM} {G H : Hp} {A : Addr → Prop} {κ : Kp} {cs : Option Nat} {cp : Bool} {vs : List V} {ds : List D}
theorem app_get {α : Type} {l : List (Option α)} {n i : Nat} {x : α} (h : (l ++ List.replicate n none)[i]? = some (some x)) : l[i]? = some (some x) := by
  by_cases hi : i < l.length
  · rwa [List.getElem?_append_left hi] at h
  · rw [List.getElem?_append_right (by omega), List.getElem?_replicate] at h
    split at h <;> cases h
/-- the state at the entry -/
theorem start_sv {N : List Str} (s : Sub G H) (ar : ArgsR C G A vs ds) (ca : CelA C G H A κ) (hc : celB (if cp = true then cs else none) 0 ds = true) (hh : hasC (if cp = true then cs else none) κ ds.length = true) (hn : vs.length ≤ N.length) :
    ∃ ft, SV C G H cs (L2.start N vs) (s0 N.length ds κ) ft ∧ (∀ a, Mf ft a ↔ A a) ∧ (∀ c, cp = true → cs = some c → ft c ≠ []) := by
  have hl := ar.length
  have sg : ∀ {i : Nat} {v : V}, vs[i]? = some v → (L2.start N vs)[i]? = some (some v) := fun {i v} h => by
    unfold L2.start
    rw [List.getElem?_append_left (by rw [List.length_map]; exact (List.getElem?_eq_some_iff.mp h).1), List.getElem?_map, h]
    rfl
  have lenS : (L2.start N vs).length = N.length := by unfold L2.start; rw [List.length_append, List.length_map, List.length_replicate]; omega
  have lenR : (s0 N.length ds κ).ρ.length = N.length := by show (argR ds ++ _).length = _; rw [List.length_append, argR_len, List.length_replicate]; omega
  have lenW : (s0 N.length ds κ).ω.length = N.length := by show (argW κ ds ++ _).length = _; rw [List.length_append, argW_len, List.length_replicate]; omega
  have slot : ∀ (i : Nat) (d : D), (s0 N.length ds κ).ω[i]? = some (some d) → (if cp = true then cs else none) = some i ∧ ∃ a cds, vs[i]? = some (.ref a) ∧ A a ∧ κ = some cds ∧ d = .lst cds := fun i d h => by
    obtain ⟨e, q⟩ := args_cel ar hc (app_get h)
    exact ⟨by rw [e, Nat.zero_add], q⟩
  cases κ with
  | none =>
    refine ⟨fun _ => [], ⟨s, fun i d h => ?_, by rw [lenS, lenR], fun i d h => ?_, fun i j a h => (nomatch h), fun i a h => (nomatch h), fun c _ => Nat.zero_le _, by rw [lenW, lenR], fun _ _ => rfl⟩, fun a => ⟨fun ⟨i, h⟩ => (nomatch h), fun h => absurd h (ca a)⟩, fun c h1 h2 => ?_⟩
    · obtain ⟨v, h1, h2⟩ := args_data ar (app_get h)
      exact ⟨v, sg h1, h2⟩
    · obtain ⟨_, a, cds, _, _, z, _⟩ := slot i d h
      cases z
    · subst h1
      rw [if_pos rfl, h2] at hh
      cases hh
  | some cds =>
    obtain ⟨a, ws, h1, h2, h3, h4, h5⟩ := ca
    cases cp with
    | false =>
      rw [if_neg (by decide)] at hh
      cases hh
    | true =>
      rw [if_pos rfl] at hh hc
      cases cs with
      | none => cases hh
      | some c =>
        have hcl : c < ds.length := of_decide_eq_true hh
        have slot' : ∀ (i : Nat) (d : D), (s0 N.length ds (some cds)).ω[i]? = some (some d) → i = c ∧ vs[i]? = some (.ref a) ∧ d = .lst cds := fun i d h => by
          obtain ⟨e, a', cds', e1, e2, e3, e4⟩ := slot i d h
          rw [if_pos rfl] at e
          cases e
          cases e3
          exact ⟨rfl, by rw [e1, (h5 a').mp e2], e4⟩
        refine ⟨fun i => if i = c then [a] else [], ⟨s, fun i d h => ?_, by rw [lenS, lenR], fun i d h => ?_, fun i j b hi hj => ?_, fun i b hi => ?_, fun c' _ => ?_, by rw [lenW, lenR], fun i hi => ?_⟩, fun b => ⟨fun ⟨i, h⟩ => ?_, fun h => ⟨c, ?_⟩⟩, fun c' _ z => ?_⟩
        · obtain ⟨v, h1, h2⟩ := args_data ar (app_get h)
          exact ⟨v, sg h1, h2⟩
        · obtain ⟨rfl, e1, rfl⟩ := slot' i d h
          try dsimp only
          rw [if_pos rfl]
          exact ⟨a, sg e1, .lst h1 h2 h4 (Owns.of h3) (by simp), by simp⟩
        · try dsimp only at hi hj
          split at hi
          · split at hj
            · rename_i e1 e2; rw [e1, e2]
            · cases hj
          · cases hi
        · try dsimp only at hi
          split at hi
          · have : b = a := by simpa using hi
            subst this
            exact ⟨h4, by rw [h1]; simp⟩
          · cases hi
        · try dsimp only
          split <;> simp
        · try dsimp only
          split
          · rename_i z
            subst z
            have q := args_at (κ := some cds) (j := 0) (i := i) ar hc (by omega) hcl
            refine absurd ?_ (hi (.lst cds))
            show (argW (some cds) ds ++ _)[i]? = _
            rw [List.getElem?_append_left (by rw [argW_len]; exact hcl), q]
            rfl
          · rfl
        · try dsimp only at h
          split at h
          · have : b = a := by simpa using h
            rw [this]
            exact (h5 a).mpr rfl
          · cases h
        · try dsimp only
          rw [if_pos rfl, (h5 b).mp h]
          simp
        · cases z
          try dsimp only
          rw [if_pos rfl]
          simp
/-- the cell at the end -/
theorem end_cel {G' H' : Hp} {σ' : St} {s' : Ss} {ft ft' : Nat → List Addr} (v : ∀ a, Mf ft a ↔ A a) (hne : ∀ c, cp = true → cs = some c → ft c ≠ []) (h1 : cp = false → ∀ a, ¬ A a) (h2 : cp = true → ∃ c, cs = some c) (hd : ∀ i j a, a ∈ ft i → a ∈ ft j → i = j) (one : ∀ c, cs = some c → (ft c).length ≤ 1) (hlen : ∀ i a, a ∈ ft i → cp = true → cs = some i) (l : Later C cs G H ft σ' s' G' H' ft') :
    CelA C G' H' A (if cp = true then s'.cell cs [] else none) := by
  cases cp with
  | false =>
    rw [if_neg (by decide)]
    exact h1 rfl
  | true =>
    rw [if_pos rfl]
    obtain ⟨c, rfl⟩ := h2 rfl
    have fc := hne c rfl rfl
    have e := l.cf c rfl fc
    have n' : ft' c ≠ [] := by rw [e]; exact fc
    have ex : ∃ d, s'.ω[c]? = some (some d) := by
      by_cases q : ∃ d, s'.ω[c]? = some (some d)
      · exact q
      · exact absurd (l.sv.em c fun d z => q ⟨d, z⟩) n'
    obtain ⟨d, hd'⟩ := ex
    obtain ⟨a, k1, k2, k3⟩ := l.sv.ow c d hd'
    have l1 := l.sv.c1 c rfl
    generalize hF : ft' c = F at k2 k3 l1
    cases k2 with
    | rep h => exact absurd rfl k3
    | lst h z g t n =>
      rename_i ws ds' F'
      have eF : F' = [] := by
        cases F' with
        | nil => rfl
        | cons x y => simp at l1
      subst eF
      have ec : s'.cell (some c) [] = some ds' := by
        unfold Ss.cell
        simp [hd']
      rw [ec]
      refine ⟨a, ws, h, z, Owns.flat t, g, fun b => ⟨fun hb => ?_, fun hb => ?_⟩⟩
      · obtain ⟨i, hi⟩ := (v b).mpr hb
        have ei := hlen i b hi rfl
        cases ei
        rw [← e, hF] at hi
        simpa using hi
      · subst hb
        refine (v b).mp ⟨c, ?_⟩
        rw [← e, hF]
        exact List.mem_cons_self
end
section
variable {m : Mo} {k : Nat} {f : Addr} {name qual : Str} {params : Arguments} {body : List Stmt} {scope : Scope} {dV kV doc pm cdv ct oc : Value} {an od : Option Addr} {osl : Array (Option Value)} {N ps : List Str}
/-- a def by its body -/
theorem fnd_of {cs : Option Nat} {cp : Bool} {b : Ss → Fl} (lk : m.K.lookup f = some ⟨oc, od, .func (PySem.W.fnOf name qual params body scope dV kV doc pm an cdv ct), osl⟩) (hcd : PySem.W.codeIn m.K cdv qual = true) (S : FnScope N ps scope) (hcp : cp = true → ∃ c, cs = some c)
    (hbody : ∀ (A : Around) (outer : List Env) (s : Shared) (H : Hp) (E : XK), A.guards = some [] → Room k (A.deeper (envOfC qual scope s.heap.objs.size f cdv)) → Takes (cxG m N qual scope f cdv A outer s H E) (fun cls d _ H => E cls d H) →
      PassesOwn (model m.P m.w) (cxG m N qual scope f cdv A outer s H E).A (cxG m N qual scope f cdv A outer s H E).env (cxG m N qual scope f cdv A outer s H E).xe →
      SXs (cxG m N qual scope f cdv A outer s H E) cs (fun cls d _ H => E cls d H) body b) :
    FnD m (k + 1) f (PySem.W.fnOf name qual params body scope dV kV doc pm an cdv ct) ps (fdef N.length cs cp b) := by
  refine fng_of lk hcd S (fun vs H Q E h => h.1) fun A outer s H vs Q E hg hr hsp => ?_
  obtain ⟨hl, G, Ad, ds, κ, sub, ar, ca, res⟩ := hsp
  obtain ⟨t, pt, xt⟩ := hbody A outer s H E hg hr (takes_of rfl rfl rfl rfl) (passes_of rfl)
  refine ⟨t, pt, ?_⟩
  have hpl : ps.length ≤ N.length := by have := congrArg List.length S.pre; rw [List.length_take] at this; omega
  unfold fdef at res
  by_cases hcond : (celB (if cp = true then cs else none) 0 ds && hasC (if cp = true then cs else none) κ ds.length) = true
  case neg =>
    rw [if_neg hcond] at res
    exact res.elim
  rw [if_pos hcond] at res
  obtain ⟨hc1, hc2⟩ := Bool.and_eq_true_iff.mp hcond
  obtain ⟨ft, v, hM, hne⟩ := start_sv (N := N) sub ar ca hc1 hc2 (by omega)
  refine xt.run (L2.start N vs) _ G H ft _ v ?_
  have hlen : ∀ i a, a ∈ ft i → cp = true → cs = some i := fun i a ha hcp' => by
    subst hcp'
    obtain ⟨c, rfl⟩ := hcp rfl
    have nc := hne c rfl rfl
    match hF : ft c with
    | [] => exact absurd hF nc
    | b :: r =>
      have q : ∃ d, (s0 N.length ds κ).ω[i]? = some (some d) := by
        by_cases q : ∃ d, (s0 N.length ds κ).ω[i]? = some (some d)
        · exact q
        · rw [v.em i fun d z => q ⟨d, z⟩] at ha
          cases ha
      obtain ⟨d, hd⟩ := q
      obtain ⟨e, _⟩ := args_cel ar hc1 (app_get hd)
      rw [if_pos rfl] at e
      rw [e, Nat.zero_add]
  have noA : cp = false → ∀ a, ¬ Ad a := fun h a ha => by
    subst h
    rw [if_neg (by decide)] at hc2
    cases κ with
    | none => exact ca a ha
    | some _ => cases hc2
  have goA : ∀ {G' H' : Hp} {ft' : Nat → List Addr}, Go G H (Mf ft) G' H' (Mf ft') → Go G H Ad G' H' Ad := fun {G' H' ft'} g => by
    have eM : Mf ft = Ad := funext fun a => propext (hM a)
    rw [eM] at g
    exact ⟨g.gg, g.hh, g.nn, g.fr, fun a h => .inl h⟩
  have cel : ∀ {σ' : St} {s' : Ss} {G' H' : Hp} {ft' : Nat → List Addr}, Later m.C cs G H ft σ' s' G' H' ft' → CelA m.C G' H' Ad (if cp = true then s'.cell cs [] else none) := fun {σ' s' G' H' ft'} l => end_cel hM hne noA hcp v.dj v.c1 hlen l
  cases hb : b (s0 N.length ds κ) with
  | nx s' =>
    rw [hb] at res
    exact fun σ' G' H' ft' l => res G' H' .non (goA l.go) l.sv.gh (cel l) .non
  | rt d s' =>
    rw [hb] at res
    exact fun σ' G' H' ft' u l r => res G' H' u (goA l.go) l.sv.gh (cel l) r
  | er x s' =>
    rw [hb] at res
    exact fun σ' G' H' ft' cls dd l r => res G' H' cls dd (goA l.go) l.sv.gh (cel l) r
  | bk s' => rw [hb] at res; exact res.elim
  | ct s' => rw [hb] at res; exact res.elim
  | bad => rw [hb] at res; exact res.elim
end

/-! ### calls -/
/-- a call: what is not handed over stays -/
def callK (n : Nat) (g : List D → Kp → Out D) (ds : List D) (κ1 : Kp) : Out D := if ds.length = n then (if noCel ds = true then (match g ds none with
    | .ok d _ => .ok d κ1
    | .er x _ => .er x κ1
    | .bad => .bad) else g ds κ1) else .bad
def eCall (n : Nat) (g : List D → Kp → Out D) (fa : M (List D)) : M D := fun ρ κ => (fa ρ κ).bind (callK n g)
theorem celA_of {C : KM} {G H : Hp} {cs : Option Nat} {σ : St} {κ : Kp} {A : Addr → Prop} (h : CellR C G H cs σ κ A) : CelA C G H A κ := by
  cases κ with
  | none => exact h
  | some ds =>
    obtain ⟨c, a, vs, h1, h2, h3⟩ := h
    exact ⟨a, vs, h3⟩
theorem cellR_of {C : KM} {G H G' H' : Hp} {cs : Option Nat} {σ : St} {κ κ' : Kp} {A : Addr → Prop} (h : CellR C G H cs σ κ A) (h' : CelA C G' H' A κ') : CellR C G' H' cs σ κ' A := by
  cases κ' with
  | none => exact h'
  | some ds' =>
    obtain ⟨a, vs, h3, h4, h5, h6, h7⟩ := h'
    cases κ with
    | none => exact absurd ((h7 a).mpr rfl) (h a)
    | some ds =>
      obtain ⟨c, a', ws, k1, k2, k3, k4, k5, k6, k7⟩ := h
      have : a' = a := (h7 a').mp ((k7 a').mpr rfl)
      subst this
      exact ⟨c, a', vs, k1, k2, h3, h4, h5, h6, h7⟩
theorem ArgsR.any {C : KM} {G : Hp} {A B : Addr → Prop} {vs : List V} {ds : List D} (h : ArgsR C G A vs ds) (n : noCel ds = true) : ArgsR C G B vs ds := by
  have r := h.reps n
  clear h n
  have gen : ∀ {ds : List D} {vs : List V}, Reps C G vs ds → ArgsR C G B vs ds := by
    intro ds
    induction ds with
    | nil => intro vs r; cases r; exact .nil
    | cons d ds ih =>
      intro vs r
      cases r with
      | cons r rr => exact .val r (ih rr)
  exact gen r
/-- the heap goes on, the cell untouched -/
theorem CelA.stay {C : KM} {G H G' H' : Hp} {κ : Kp} {A : Addr → Prop} (h : CelA C G H A κ) (g : Go G H (fun _ => False) G' H' (fun _ => False)) : CelA C G' H' A κ := by
  cases κ with
  | none => exact h
  | some ds =>
    obtain ⟨a, vs, h1, h2, h3, h4, h5⟩ := h
    exact ⟨a, vs, g.hh _ _ h1 (fun z => z), h2, h3.mono g.gg, g.fr a h4 (by rw [h1]; simp) (fun z => z), h5⟩
theorem EV.on {C : KM} {G H G' H' : Hp} {cs : Option Nat} {σ : St} {ρ : Sd} {κ κ' : Kp} {A : Addr → Prop} (e : EV C G H cs σ ρ κ A) (gg : Sub G G') (gh : Sub G' H') (c : CelA C G' H' A κ') : EV C G' H' cs σ ρ κ' A :=
  ⟨gh, fun i d h => let ⟨v, h1, r⟩ := e.sl i d h; ⟨v, h1, r.mono gg⟩, cellR_of e.ce c, e.ln⟩
theorem call_run {C : KM} {cs : Option Nat} {W : WX} {n : Nat} {g : List D → Kp → Out D} {t : TA} {fa : M (List D)} (h : AXt C cs W t fa) : PXt C cs W (tCallS (spD C n g) (WE W) t) (eCall n g fa) := by
  refine ⟨fun σ ρ κ G H A Q e k => h.run σ ρ κ G H A _ e (Res.mono (Res.bind k) ?_)⟩
  intro ds G1 H1 s1 ⟨κ1, e1, k1⟩ vs ar
  unfold callK at k1
  by_cases hl : ds.length = n
  case neg =>
    rw [if_neg hl] at k1
    exact (show False from k1).elim
  rw [if_pos hl] at k1
  refine ⟨ar.length.trans hl, ?_⟩
  by_cases hn : noCel ds = true
  · rw [if_pos hn] at k1
    refine ⟨G1, fun _ => False, ds, none, e1.gh, ar.any hn, fun a h => h, ?_⟩
    have up : ∀ {G' H' : Hp}, Go G1 H1 (fun _ => False) G' H' (fun _ => False) → Sub G' H' → Go G1 H1 A G' H' A ∧ EV C G' H' cs σ ρ κ1 A := fun {G' H'} g gh =>
      ⟨⟨g.gg, fun a o e _ => g.hh a o e (fun z => z), g.nn, fun a e n _ => g.fr a e n (fun z => z), fun a z => .inl z⟩, e1.on g.gg gh ((celA_of e1.ce).stay g)⟩
    cases hg : g ds none with
    | bad => rw [hg] at k1; exact (show False from k1).elim
    | ok d κ2 =>
      rw [hg] at k1
      exact fun G' H' v go gh _ r => k1 G' H' (up go gh).1 (up go gh).2 v r
    | er x κ2 =>
      rw [hg] at k1
      exact fun G' H' cls dd go gh _ r => k1 G' H' cls dd (up go gh).1 (up go gh).2 r
  · rw [if_neg hn] at k1
    refine ⟨G1, A, ds, κ1, e1.gh, ar, celA_of e1.ce, ?_⟩
    revert k1
    generalize g ds κ1 = o
    intro k1
    cases o with
    | bad => exact k1
    | ok d κ2 => exact fun G' H' v go gh c r => k1 G' H' go (e1.on go.gg gh c) v r
    | er x κ2 => exact fun G' H' cls dd go gh c r => k1 G' H' cls dd go (e1.on go.gg gh c) r
theorem call_run0 {C : KM} {cs : Option Nat} {W : WX} {g : List D → Kp → Out D} : PXt C cs W (tCallS (spD C 0 g) (WE W) tNil) (eCall 0 g aNil) :=
  call_run ⟨fun σ ρ κ G H A Q e k => k G H Go.rfl e [] .nil⟩
section
variable {m : Mo} {X : Cx} {cs : Option Nat} {W : WX} {k : Nat} {f : Addr} {fd : FuncData} {ps : List Str} {g : List D → Kp → Out D}
/-- the context stands in the module -/
structure InM (m : Mo) (X : Cx) : Prop where
  P : X.prog = m.P
  w : X.w = m.w
  K : X.K = m.K
  mg : X.mg = m.mg
  base : X.base = m.base
theorem run_fng {pins : List (Addr × Obj)} {σ : St} {H : Hp} {s : Shared} {Q : VK} {us : List Value} {vs : List V} {sp : Sp} (F : FnG m k f fd ps sp) (hm : InM m X) (hg : X.A.guards = some []) (hr : Room k X.A) (hb : Binds m.K fd ps []) (tk : Takes X W)
    (I : Inv X pins σ H s) (r : Vals vs us) (h : sp vs H Q (WE W σ)) : wpAny (model X.prog X.w) X.A (call (.ref f) us) (EP X pins σ Q) X.xe s := by
  have hl : us.length = ps.length := by rw [← r.length]; exact F.len _ _ _ _ h
  have kin := I.kIn
  have e0 := I.env0
  rw [hm.K] at kin
  rw [hm.P, hm.w, hm.K, hm.mg, hm.base] at e0
  have b := hb s us kin (by rw [List.append_nil]; exact hl)
  rw [List.append_nil] at b
  have run := F.run X.A X.stack s H ⟨us, []⟩ us vs Q (WE W σ) hg hr e0 b r h
  rw [← hm.P, ← hm.w] at run
  refine wpAny_call (codeAny_mono run fun r s' hq => ?_)
  cases r with
  | error e => exact passAt tk σ pins H s e s' I hq
  | ok fl =>
    cases fl with
    | ret u => exact I.after hq
    | next => exact hq.elim
    | brk => exact hq.elim
    | cont => exact hq.elim
theorem px_call {xs : List Str} {sc : Scope} {x : Str} {p pos : Pos} {e : Expr} {es : List Expr} {fs : M (List D)} (i : Nat) (h : glB xs sc = true) (F : FnD m k f fd ps g) (hm : InM m X) (hg : X.A.guards = some []) (hr : Room k X.A) (tk : Takes X W) (hb : Binds m.K fd ps []) (hx : m.mg x = some (.ref f)) (hk : PySem.W.keepIn m.K (.ref f) = true)
    (ha : AX X cs W (e :: es) fs) (esc : X.env.scope = sc := by rfl) (hi : xs[i]? = some x := by rfl) (he : starEach (e :: es) X.env = (false, eval e X.env) :: starEach es X.env := by rfl) (hpl : (backTo pos (starEach es X.env)).any (·.1) = false := by rfl) :
    PX X cs W (.Call (.Name x p) (e :: es) [] pos) (eCall ps.length g fs) := by
  obtain ⟨h1, h2, h3⟩ := gl_of h hi esc
  obtain ⟨t, pt, rt⟩ := ha
  refine ⟨tCallS (spD (Cx.C X) ps.length g) (WE W) t, ⟨fun pins s σ H Q I q => ?_⟩, call_run rt⟩
  refine wpAny_Call_Name_kw (ld_glob I h1 (by rw [hm.mg]; exact hx) ?_ h2)
  refine PySem.W.callWith_K (h₀ := X.base) I.ok.mod.kin (by rw [hm.K]; exact hk) (thn (pt.run pos pins s σ H _ I q) fun us s1 ⟨vs, H1, I1, r, q⟩ => ⟨I1.kIn, ?_⟩) he hpl
  have eC : Cx.C X = m.C := by rw [Cx.C, hm.K, hm.mg]
  rw [eC] at q
  exact run_fng F hm hg hr hb tk I1 r q
theorem px_call0 {xs : List Str} {sc : Scope} {x : Str} {p pos : Pos} (i : Nat) (h : glB xs sc = true) (F : FnD m k f fd [] g) (hm : InM m X) (hg : X.A.guards = some []) (hr : Room k X.A) (tk : Takes X W) (hb : Binds m.K fd [] []) (hx : m.mg x = some (.ref f)) (hk : PySem.W.keepIn m.K (.ref f) = true)
    (esc : X.env.scope = sc := by rfl) (hi : xs[i]? = some x := by rfl) : PX X cs W (.Call (.Name x p) [] [] pos) (eCall 0 g aNil) := by
  obtain ⟨h1, h2, h3⟩ := gl_of h hi esc
  refine ⟨tCallS (spD (Cx.C X) 0 g) (WE W) tNil, ⟨fun pins s σ H Q I q => ?_⟩, call_run0⟩
  refine wpAny_Call_Name_kw (ld_glob I h1 (by rw [hm.mg]; exact hx) ?_ h2)
  have eC : Cx.C X = m.C := by rw [Cx.C, hm.K, hm.mg]
  rw [eC] at q
  exact PySem.W.callWith_K0 I.kIn (by rw [hm.K]; exact hk) (run_fng (us := []) F hm hg hr hb tk I .nil q)
end
end G

set_option Elab.async false
set_option linter.all false
set_option maxRecDepth 100000
/-! Statements by their form. -/
namespace G
open PySem PySem.Spec PyProof.Rows L2 RZ GXS
/-- stored names: locals, or cells of the def -/
def stB (is : List Nat) (N : List Str) (sc : Scope) : Bool := is.all fun i => match N[i]? with
  | some x => (match sc.names.lookup x with
    | some .local => true
    | some .cell => true
    | _ => false)
  | none => false
theorem st_of {is : List Nat} {N : List Str} {sc : Scope} (h : stB is N sc = true) {i : Nat} {x : Str} (hi : is.contains i = true) (hN : N[i]? = some x) : Loc sc x := by
  have h1 := List.all_eq_true.mp h i (List.contains_iff_mem.mp hi)
  rw [hN] at h1
  dsimp only at h1
  split at h1
  · exact .inl (by assumption)
  · exact .inr (by assumption)
  · cases h1
section
variable {X : Cx} {cs : Option Nat} {W : WX} {st : Stmt} {rest : List Stmt} {b b1 b2 : Ss → Fl} {e c : Expr} {f : M D} {pos : Pos}
theorem ss_nil : SXs X cs W [] bNext := ⟨_, pss_nil, sx_next⟩
theorem ss_cons (h : SX X cs W st b1) (hr : SXs X cs W rest b2) : SXs X cs W (st :: rest) (bSeq b1 b2) := by
  obtain ⟨t, p, q⟩ := h
  obtain ⟨u, p2, q2⟩ := hr
  exact ⟨_, pss_cons p p2, sx_seq q q2⟩
theorem ss_one (h : SX X cs W st b1) : SXs X cs W [st] b1 := by
  obtain ⟨t, p, q⟩ := h
  exact ⟨_, pss_one p, q⟩
theorem st_fix (i : Nat) (h : SX X cs W st b) (hc : csOk cs i = true := by rfl) : SX X cs W st (bFix i b) := by
  obtain ⟨t, p, q⟩ := h
  exact ⟨_, p, sx_fix hc q⟩
theorem ss_fix (i : Nat) (h : SXs X cs W rest b) (hc : csOk cs i = true := by rfl) : SXs X cs W rest (bFix i b) := by
  obtain ⟨t, p, q⟩ := h
  exact ⟨_, p, sx_fix hc q⟩
theorem st_pass : SX X cs W (.Pass pos) bNext := ⟨_, ps_pass, sx_next⟩
theorem st_brk : SX X cs W (.Break pos) (fun s => .bk s) := ⟨_, ps_break, sx_break⟩
theorem st_ct : SX X cs W (.Continue pos) (fun s => .ct s) := ⟨_, ps_continue, sx_cont⟩
theorem st_doc {x j pos'} : SX X cs W (.Expr (.Constant (.str x) j pos) pos') bNext := ⟨_, ps_doc, sx_next⟩
theorem st_ret (R : List Nat) (h : PX X cs W e f) : SX X cs W (.Return (some e) pos) (bRet cs R f) := by
  obtain ⟨t, p, q⟩ := h
  exact ⟨_, ps_ret p, sx_ret q⟩
theorem st_retN : SX X cs W (.Return none pos) (fun s => .rt .non s) := ⟨_, ps_retN, sx_retN⟩
theorem st_expr (R : List Nat) (h : PX X cs W e f) (hs : swapsWith e none pos.line X.env = pure false := by rfl) : SX X cs W (.Expr e pos) (bExpr cs R f) := by
  obtain ⟨t, p, q⟩ := h
  exact ⟨_, ps_expr p hs, sx_expr q⟩
theorem st_if (R : List Nat) {ft : M Bool} {l1 l2 : List Stmt} (h : TX X cs W c ft) (h1 : SXs X cs W l1 b1) (h2 : SXs X cs W l2 b2) : SX X cs W (.If c l1 l2 pos) (bIf cs R ft b1 b2) := by
  obtain ⟨t, p, q⟩ := h
  obtain ⟨t1, p1, q1⟩ := h1
  obtain ⟨t2, p2, q2⟩ := h2
  exact ⟨_, ps_if p p1 p2, sx_if q q1 q2⟩
theorem cs_vs {vs : List Nat} (h : vs.all (csOk cs) = true) : ∀ c, cs = some c → c ∉ vs := fun c e hm => csOk_ne (List.all_eq_true.mp h c hm) e rfl
theorem st_for {tg iter : Expr} {body : List Stmt} {vs : List Nat} {fi : M (List D)} {tgd : Tg} (hp : PassesOwn (model X.prog X.w) X.A X.env X.xe) (hc : X.calm = true) (hi : IX X cs W tg iter fi) (hg : GX X cs vs tg tgd) (hb : SXs X cs W body b)
    (hcs : vs.all (csOk cs) = true := by rfl) (hs : ∀ x, foldedSetIterable iter X.env x = pure x := by intro _; rfl) : SX X cs W (.For tg iter body [] pos) (bFor cs vs tgd fi b) := by
  obtain ⟨wi, p1, q1⟩ := hi
  obtain ⟨g, p2, q2⟩ := hg
  obtain ⟨tb, p3, q3⟩ := hb
  exact ⟨_, ps_for hp hc p1 p2 p3 hs, sx_for (cs_vs hcs) q1 q2 q3⟩
theorem st_while (R : List Nat) {ft : M Bool} {body : List Stmt} (hp : PassesOwn (model X.prog X.w) X.A X.env X.xe) (h : TX X cs W c ft) (hb : SXs X cs W body b) : SX X cs W (.While c body [] pos) (bWhile cs R ft b) := by
  obtain ⟨t, p, q⟩ := h
  obtain ⟨tb, p3, q3⟩ := hb
  exact ⟨_, ps_while hp p p3, sx_while q q3⟩
theorem gxt_name {C : KM} {i : Nat} (hc : csOk cs i = true) : GXt C cs [i] (gName i) (tName i) := by
  refine ⟨fun σ ρ ρ' κ G H A v d Q e r ht k => ?_⟩
  cases ht
  refine k _ (e.set hc r) (by simp) fun j hj => List.getElem?_set_ne fun z => hj ?_
  subst z
  simp
/-- name = e -/
theorem st_set {is : List Nat} {N : List Str} {sc : Scope} {x : Str} {pos' : Pos} (i : Nat) (R : List Nat) (h : stB is N sc = true) (nd : N.Nodup) (ha : PX X cs W e f) (eN : X.N = N := by rfl) (esc : X.env.scope = sc := by rfl) (hi : is.contains i = true := by rfl) (hN : N[i]? = some x := by rfl) (hf : X.fn x = true := by rfl)
    (hs : swapsWith e (some (.Name x pos')) pos.line X.env = pure false := by rfl) (hc : csOk cs i = true := by rfl) : SX X cs W (.Assign [.Name x pos'] e pos) (bAsg cs R [i] (tName i) f) := by
  obtain ⟨t, p, q⟩ := ha
  have hl := st_of h hi hN
  rw [← esc] at hl
  rw [← eN] at nd hN
  exact ⟨_, ps_set nd hN hl p hs (.inl hf), sx_asg (cs_vs (by simp [hc])) q (gxt_name hc)⟩
/-- (a, b) = e -/
theorem st_tup {es : List Expr} {k : Nat} {tp : Pos} {vs : List Nat} {tgd : Tg} (R : List Nat) (ha : PX X cs W e f) (hg : GX X cs vs (.Tuple es k tp) tgd) (hs : swapsWithSole [.Tuple es k tp] e pos.line X.env = pure false := by rfl) (hw : swappedStores [.Tuple es k tp] e X.env = pure none := by rfl)
    (h1 : (assignEach [.Tuple es k tp] X.env).map (·.2) = [assign (.Tuple es k tp) X.env] := by rfl) (hcs : vs.all (csOk cs) = true := by rfl) : SX X cs W (.Assign [.Tuple es k tp] e pos) (bAsg cs R vs tgd f) := by
  obtain ⟨t, p, q⟩ := ha
  obtain ⟨g, p2, q2⟩ := hg
  exact ⟨_, ps_asg p p2 hs hw h1, sx_asg (cs_vs hcs) q q2⟩
/-- name = [.. for ..] on one line -/
theorem st_setLc {elt tg iter : Expr} {ifs : List Expr} {scope : Scope} {own : List (Str × Nat)} {lp py spos : Pos} {fl : M (List D)} {is : List Nat} {N : List Str} {sc : Scope} {y : Str} (i : Nat) (R : List Nat) (h : LX X cs W tg iter ifs elt scope own fl) (ok : BlkOk X.N X.env.scope scope own) (hl : lcB is N sc = true) (nd : N.Nodup) (hc : X.calm = true)
    (hsw : swapsWith (.ListComp elt [⟨tg, iter, ifs, 0⟩] scope lp) (some (.Name y py)) spos.line X.env = pure true)
    (eN : X.N = N := by rfl) (esc : X.env.scope = sc := by rfl) (hi : is.contains i = true := by rfl) (hN : N[i]? = some y := by rfl) (hs : ∀ x, foldedSetIterable iter X.env x = pure x := by intro _; rfl) (hcs : csOk cs i = true := by rfl) :
    SX X cs W (.Assign [.Name y py] (.ListComp elt [⟨tg, iter, ifs, 0⟩] scope lp) spos) (bAsg cs R [i] (tName i) (eLst fl)) := by
  obtain ⟨wi, g, tt, te, h1, h2, h3, h4, h5⟩ := h.ex
  have hlo := lc_of hl hi hN
  rw [← esc] at hlo
  rw [← eN] at nd hN
  exact ⟨_, ps_setLc hc nd hN hlo hsw h1 ok h2 h3 h4 hs, sx_asg (cs_vs (by simp [hcs])) (fx_px h5) (gxt_name hcs)⟩
/-- an expression that lays a new list -/
def FX (X : Cx) (cs : Option Nat) (W : WX) (e : Expr) (f : M (List D)) : Prop := ∃ t, PE X e t ∧ FXt (Cx.C X) cs W t f
def aFree (fa : M (List D)) : M (List D) := fun ρ κ => (fa ρ κ).bind fun ds κ => if noCel ds = true ∧ ds.length ≤ sizeLine then .ok ds κ else .bad
theorem fx_lst {es : List Expr} {fs : M (List D)} (h : AX X cs W es fs) : FX X cs W (.List es pos) (aFree fs) := by
  obtain ⟨t, p, q⟩ := h
  refine ⟨_, pe_lst p, ⟨fun σ ρ κ G H A Q e k => q.run σ ρ κ G H A _ e (Res.mono (Res.bind k) ?_)⟩⟩
  intro ds G1 H1 _ ⟨κ1, e1, k1⟩ vs ar
  by_cases hn : noCel ds = true ∧ ds.length ≤ sizeLine
  · rw [if_pos hn] at k1
    have r := ar.reps hn.1
    refine ⟨by rw [r.length]; exact hn.2, fun p hp => k1 G1 H1 Go.rfl e1 p vs _ hp (fun b hb => upd_ne hb) upd_same (by rw [r.length]; exact hn.2) r⟩
  · rw [if_neg hn] at k1
    exact (show False from k1).elim
theorem fx_lc {tg iter elt : Expr} {ifs : List Expr} {scope : Scope} {own : List (Str × Nat)} {fl : M (List D)} (h : LX X cs W tg iter ifs elt scope own fl) (ok : BlkOk X.N X.env.scope scope own) (nd : X.N.Nodup) (hc : X.calm = true) (hs : ∀ x, foldedSetIterable iter X.env x = pure x := by intro _; rfl) :
    FX X cs W (.ListComp elt [⟨tg, iter, ifs, 0⟩] scope pos) fl := by
  obtain ⟨wi, g, tt, te, h1, h2, h3, h4, h5⟩ := h.ex
  exact ⟨_, pe_lc hc nd h1 ok h2 h3 h4 hs, h5⟩
/-- name = a new list, the def's own -/
theorem st_own {is : List Nat} {N : List Str} {sc : Scope} {x : Str} {pos' : Pos} {fl : M (List D)} (i : Nat) (R : List Nat) (h : stB is N sc = true) (nd : N.Nodup) (ha : FX X cs W e fl) (eN : X.N = N := by rfl) (esc : X.env.scope = sc := by rfl) (hi : is.contains i = true := by rfl) (hN : N[i]? = some x := by rfl) (hf : X.fn x = true := by rfl)
    (hs : swapsWith e (some (.Name x pos')) pos.line X.env = pure false := by rfl) : SX X cs W (.Assign [.Name x pos'] e pos) (bOwn cs R i fl) := by
  obtain ⟨t, p, q⟩ := ha
  have hl := st_of h hi hN
  rw [← esc] at hl
  rw [← eN] at nd hN
  exact ⟨_, ps_set nd hN hl p hs (.inl hf), sx_own q⟩
theorem st_ownLc {elt tg iter : Expr} {ifs : List Expr} {scope : Scope} {own : List (Str × Nat)} {lp py spos : Pos} {fl : M (List D)} {is : List Nat} {N : List Str} {sc : Scope} {y : Str} (i : Nat) (R : List Nat) (h : LX X cs W tg iter ifs elt scope own fl) (ok : BlkOk X.N X.env.scope scope own) (hl : lcB is N sc = true) (nd : N.Nodup) (hc : X.calm = true)
    (hsw : swapsWith (.ListComp elt [⟨tg, iter, ifs, 0⟩] scope lp) (some (.Name y py)) spos.line X.env = pure true)
    (eN : X.N = N := by rfl) (esc : X.env.scope = sc := by rfl) (hi : is.contains i = true := by rfl) (hN : N[i]? = some y := by rfl) (hs : ∀ x, foldedSetIterable iter X.env x = pure x := by intro _; rfl) :
    SX X cs W (.Assign [.Name y py] (.ListComp elt [⟨tg, iter, ifs, 0⟩] scope lp) spos) (bOwn cs R i fl) := by
  obtain ⟨wi, g, tt, te, h1, h2, h3, h4, h5⟩ := h.ex
  have hlo := lc_of hl hi hN
  rw [← esc] at hlo
  rw [← eN] at nd hN
  exact ⟨_, ps_setLc hc nd hN hlo hsw h1 ok h2 h3 h4 hs, sx_own h5⟩
/-- a visible name's reading is the slot's -/
theorem pe_slot {is : List Nat} {N : List Str} {sc : Scope} {x : Str} {p : Pos} {i : Nat} (h : nmB is N sc = true) (eN : X.N = N) (esc : X.env.scope = sc) (hi : is.contains i = true) (hN : N[i]? = some x) : PE X (.Name x p) (tVar i) := by
  obtain ⟨h1, h2, h3⟩ := nm_of h hi hN
  exact pe_var (i := i) (by rw [eN]; exact hN) (by rw [esc]; exact h1) h2 h3
/-- x.append(e) -/
theorem st_app {is : List Nat} {N : List Str} {sc : Scope} {x : Str} {p apos cpos : Pos} (i : Nat) (R : List Nat) (h : nmB is N sc = true) (ha : PX X cs W e f) (eN : X.N = N := by rfl) (esc : X.env.scope = sc := by rfl) (hi : is.contains i = true := by rfl) (hN : N[i]? = some x := by rfl)
    (hbase : attributeBase (.Name x p) "append" X.env (eval (.Name x p) X.env) = eval (.Name x p) X.env := by rfl)
    (hs0 : starEach [e] X.env = (false, eval e X.env) :: starEach [] X.env := by rfl)
    (hfew : ((backTo cpos (starEach [e] X.env)).all (fun x => !x.1) && (backToKw cpos (keywordEach [] X.env)).all (fun x => x.1.isSome)
      && decide ([e].length + ([] : List Keyword).length + (if ([] : List Keyword).isEmpty then 0 else 1) < 30)) = true := by rfl)
    (hline : (apos.endLine == cpos.line) = true := by rfl) (hplain : (backTo cpos (starEach [] X.env)).any (·.1) = false := by rfl)
    (hs : swapsWith (.Call (.Attribute (.Name x p) "append" apos) [e] [] cpos) none pos.line X.env = pure false := by rfl) :
    SX X cs W (.Expr (.Call (.Attribute (.Name x p) "append" apos) [e] [] cpos) pos) (bApp cs R i f) := by
  obtain ⟨t, pt, q⟩ := ha
  exact ⟨_, ps_expr (pe_bm PySem.F.plainAttrs_list PySem.F.slot_list_append PySem.F.type_list_append mt_append (pe_slot h eN esc hi hN) (pa_cons pt pa_nil hs0) hbase hfew hline hs0 hplain) hs, sx_app q⟩
/-- x[k] = e -/
theorem st_item {is : List Nat} {N : List Str} {sc : Scope} {x : Str} {p tpos : Pos} {ek : Expr} {fk : M D} (i : Nat) (R R2 : List Nat) (h : nmB is N sc = true) (hk : PX X cs W ek fk) (ha : PX X cs W e f) (eN : X.N = N := by rfl) (esc : X.env.scope = sc := by rfl) (hi : is.contains i = true := by rfl) (hN : N[i]? = some x := by rfl)
    (hs : swapsWithSole [.Subscript (.Name x p) ek tpos] e pos.line X.env = pure false := by rfl) (hw : swappedStores [.Subscript (.Name x p) ek tpos] e X.env = pure none := by rfl) (h1 : (assignEach [.Subscript (.Name x p) ek tpos] X.env).map (·.2) = [assign (.Subscript (.Name x p) ek tpos) X.env] := by rfl)
    (hb : ∀ v, assign (.Subscript (.Name x p) ek tpos) X.env v = (do
      let ov ← holding [v] (eval (.Name x p) X.env)
      let iv ← holding [v, ov] (eval ek X.env)
      standAt tpos
      holding [v, ov, iv] (setItem ov iv v)
      release [v, ov, iv] []) := by intro _; rfl) : SX X cs W (.Assign [.Subscript (.Name x p) ek tpos] e pos) (bSet cs R R2 i fk f) := by
  obtain ⟨tk, pk, qk⟩ := hk
  obtain ⟨t, pt, q⟩ := ha
  exact ⟨_, ps_asg pt (pg_sub (pe_slot h eN esc hi hN) pk set_list hb) hs hw h1, sx_set q qk⟩
theorem st_aug {is : List Nat} {N : List Str} {sc : Scope} {x : Str} {op : Operator} {ti : TIp} {g : D → D → Option D} {pos' : Pos} (i : Nat) (R : List Nat) (h : stB is N sc = true) (nd : N.Nodup) (ho : PIp X op ti) (hs : Snd2 (Cx.C X) ti g) (ha : PX X cs W e f) (eN : X.N = N := by rfl) (esc : X.env.scope = sc := by rfl) (hi : is.contains i = true := by rfl) (hN : N[i]? = some x := by rfl) (hf : X.fn x = true := by rfl)
    (hc : csOk cs i = true := by rfl) : SX X cs W (.AugAssign (.Name x pos') op e pos) (bAug cs R i g f) := by
  obtain ⟨t, pt, q⟩ := ha
  have hl := st_of h hi hN
  rw [← esc] at hl
  rw [← eN] at nd hN
  exact ⟨_, ps_aug nd hN hl pt ho (.inl hf), sx_aug hc q hs⟩
theorem st_raise (R : List Nat) {fx : M Exn} (hc : X.calm = true) (tk : Takes X W) (h : MX X cs W e fx) : SX X cs W (.Raise (some e) none pos) (bRaise cs R fx) := by
  obtain ⟨t, p, q⟩ := h
  exact ⟨_, ps_raise hc tk p, sx_raise q⟩
/-- the clauses with what they give -/
inductive Clauses (X : Cx) (cs : Option Nat) (all : List Str) : List ExceptHandler → List HRow → Prop
  | nil : Clauses X cs all [] []
  | bare {x : Str} {cv : Value} {b₀ : Stmt} {suite : List Stmt} {np pos' : Pos} {hds : List ExceptHandler} {r : List HRow} {cat : List Str} {g : Exn → Option D} (hc : Names X x cv) (ct : CatT (Cx.C X) all cat cv) (hsu : HS X none (b₀ :: suite) g) (hr : Clauses X cs all hds r) :
      Clauses X cs all (.ExceptHandler (some (.Name x np)) none (b₀ :: suite) pos' :: hds) ((cat, none, g) :: r)
  | as {x n : Str} {cv : Value} {i : Nat} {b₀ : Stmt} {suite : List Stmt} {np pos' : Pos} {hds : List ExceptHandler} {r : List HRow} {cat : List Str} {g : Exn → Option D} (hc : Names X x cv) (ct : CatT (Cx.C X) all cat cv) (hi : X.N[i]? = some n) (hln : X.env.kindOf n = some .local) (hci : csOk cs i = true) (hsu : HS X (some i) (b₀ :: suite) g) (hr : Clauses X cs all hds r) :
      Clauses X cs all (.ExceptHandler (some (.Name x np)) (some n) (b₀ :: suite) pos' :: hds) ((cat, some i, g) :: r)
theorem Clauses.get {all : List Str} {hds : List ExceptHandler} {r : List HRow} (h : Clauses X cs all hds r) : ∃ l, HandsOk X hds l ∧ RowsOk (Cx.C X) cs all l r := by
  induction h with
  | nil => exact ⟨[], .nil, .nil⟩
  | bare hc ct hsu hr ih =>
    obtain ⟨l, h1, h2⟩ := ih
    obtain ⟨t, p, q⟩ := hsu
    exact ⟨_, .bare hc p h1, .cons ct (fun j z => nomatch z) q h2⟩
  | as hc ct hi hln hci hsu hr ih =>
    obtain ⟨l, h1, h2⟩ := ih
    obtain ⟨t, p, q⟩ := hsu
    exact ⟨_, .as hc hi hln p h1, .cons ct (fun j z => by cases z; exact hci) q h2⟩
open Classical in
theorem st_try {body : List Stmt} {h₀ : ExceptHandler} {hds : List ExceptHandler} {r : List HRow} {all : List Str} (hs : X.stack = X.env :: X.outer) (hf : X.env.frame = some X.env.locals) (hN : X.N.Nodup) (tk : Takes X W)
    (hb : ∀ (W : WX) (pn : List (Addr × Obj)) (xe : Value → Shared → Prop), Takes (X.tr pn xe) W → PassesOwn (model X.prog X.w) X.A X.env xe → SXs (X.tr pn xe) cs W body b) (hh : Clauses X cs all (h₀ :: hds) r) : SX X cs W (.Try body (h₀ :: hds) [] [] pos) (bTry all r b) := by
  obtain ⟨l, h1, h2⟩ := hh.get
  let tb : WX → TS := fun W D σ H => ∀ (pn : List (Addr × Obj)) (xe : Value → Shared → Prop) (a : Takes (X.tr pn xe) W) (c : PassesOwn (model X.prog X.w) X.A X.env xe), (hb W pn xe a c).choose D σ H
  have h3 : SXt (Cx.C X) cs W (fun D σ H => tb (wAll (Cx.C X).K W D l) D σ H) (bTry all r b) := sx_try (b := b) (tb := tb) h2 fun W => ⟨fun σ s G H ft D v k pn xe a c => (hb W pn xe a c).choose_spec.2.run σ s G H ft D v k⟩
  refine ⟨_, ps_tryA (tb := tb) hs hf hN tk (fun W pn xe a c => ?_) h1, h3⟩
  have p := (hb W pn xe a c).choose_spec.1
  exact ⟨fun pins s σ H D I h => p.run pins s σ H D I (h pn xe a c)⟩
end
end G

set_option Elab.async false
set_option linter.all false
set_option maxRecDepth 100000
/-! repr of data. -/
namespace G
open PySem PySem.Spec PyProof.Rows L2 RZ GXS
def okShow (p : PyData) : Bool := p.showable && (!p.hasDict && (decide (p.depth ≤ 60) && decide (p.shown.length ≤ sizeLine)))
def rShow (K : PySem.W.Frag) : List V → Hp → VK → Prop := fun xs H Q => ∃ v p, xs = [v] ∧ Dp K H v p ∧ okShow p = true ∧ Q (.str p.shown) H
theorem call_show {X : Cx} (hg : X.A.guards = some []) (hu : X.A.units + 64 < cLine) : CallR X (.builtin "repr") (rShow X.K) := by
  intro pins s σ H xs us Q I r h
  obtain ⟨v, p, rfl, dp, ok, q⟩ := h
  obtain ⟨h1, ok⟩ := Bool.and_eq_true_iff.mp ok
  obtain ⟨h2, ok⟩ := Bool.and_eq_true_iff.mp ok
  obtain ⟨h3, h4⟩ := Bool.and_eq_true_iff.mp ok
  have h3 := of_decide_eq_true h3
  have h4 := of_decide_eq_true h4
  obtain ⟨u, rfl, ru⟩ := vals1 r
  obtain ⟨as, rd⟩ := Dp.reads I p v u dp ru
  cases dp with
  | non =>
    cases ru
    exact P.repr_of_none ⟨.str _, H, I.tok _, ⟨_, rfl⟩, q⟩
  | bl b =>
    cases ru
    refine P.repr_of_bool ⟨.str _, H, I.tok _, ⟨_, rfl⟩, ?_⟩
    cases b <;> exact q
  | int i =>
    obtain ⟨t, rfl⟩ := ru
    refine P.repr_of_int (by simpa [PyData.showable] using h1) ⟨.str _, H, I.tok _, ⟨_, rfl⟩, ?_⟩
    simpa [PyData.shown] using q
  | str x =>
    obtain ⟨t, rfl⟩ := ru
    refine P.repr_of_str ⟨.str _, H, I.tok _, ⟨_, rfl⟩, ?_⟩ (by simpa [PyData.shown] using h4)
    simpa [PyData.shown] using q
  | lst hs ha =>
    have er : u = .ref _ := ru
    subst er
    exact repr_of_reads' rd h1 (fun z => by simp [z] at h2) hg (by omega) (fun _ _ e => e) (fun h' w tk hk => ⟨.str _, H, I.kept hk, ⟨_, rfl⟩, q⟩) h4
  | tup hs ha =>
    have er : u = .ref _ := ru
    subst er
    exact repr_of_reads' rd h1 (fun z => by simp [z] at h2) hg (by omega) (fun _ _ e => e) (fun h' w tk hk => ⟨.str _, H, I.kept hk, ⟨_, rfl⟩, q⟩) h4
def dRepr : List D → Option D
  | [d] => d.p.bind fun p => if okShow p = true then some (.str p.shown) else none
  | _ => none
theorem sd_repr {C : KM} : SndL C (rShow C.K) dRepr := by
  intro G H vs ds z Q s rs hz k
  match ds, hz with
  | [d], hz =>
    obtain ⟨v, rfl, r⟩ := reps1 rs
    obtain ⟨p, h1, h2⟩ := Option.bind_eq_some_iff.mp hz
    split at h2
    · rename_i ok
      cases h2
      exact ⟨v, p, rfl, r.dp s h1, ok, k G H _ (Al.rfl s) (.str _)⟩
    · cases h2
end G

set_option Elab.async false
set_option linter.all false
set_option maxRecDepth 100000
/-! What the written part says of the errors' classes: one more Hook. -/
namespace GH
open PySem PySem.Spec PyProof.Rows L2 GXS He
/-- a fact about own errors' classes: the class, the class whose __init__ it has, the fields; what isinstance says of it -/
inductive Fx where
  | exn (x dn : Str) (flds : List Str)
  | kit (x c : Str) (b : Bool)
  | kitB (x : Str) (T : String) (b : Bool)
  | exmB (x : Str) (T : String) (b : Bool)
  | tup (x : Str) (ns : List Int)
def oexB (K : PySem.W.Frag) (C : Addr) : Bool := (match K.lookup C with
  | some ⟨.type "type", _, .cls cd, sl⟩ => (match cd.mro, sl.toList with
    | .ref C' :: bm, [_, _, _, _, some (.builtin n), _] => decide (C' = C) && (decide (n = "ValueError.__new__") && (!cd.hasDel && (cd.hasDict && PySem.HandSPX.refsVE bm)))
    | _, _ => false)
  | _ => false) && (eqO (PySem.W.findIn K (.ref C) "__setattr__") (some (some (.builtin "object.__setattr__"))) && (decide (PySem.W.subIn K (.ref C) (.type "BaseException") = some true) && (decide (PySem.W.typeIn K (.ref C) = some (.type "type")) && PySem.W.keepIn K (.ref C))))
theorem oexB_ok {K : PySem.W.Frag} {C : Addr} (h : oexB K C = true) : OexC K C := by
  obtain ⟨q, h⟩ := ba h
  obtain ⟨h1, h⟩ := ba h
  obtain ⟨h2, h⟩ := ba h
  obtain ⟨h3, h4⟩ := ba h
  refine ⟨?_, eqO_ok h1, of_decide_eq_true h2, of_decide_eq_true h3, h4⟩
  clear h1 h2 h3 h4
  split at q
  · rename_i dd cd sl ho
    split at q
    · rename_i C' bm k0 k1 k2 k3 n k5 hm hs
      obtain ⟨e1, q⟩ := ba q
      obtain ⟨e2, q⟩ := ba q
      obtain ⟨e3, q⟩ := ba q
      obtain ⟨e4, e5⟩ := ba q
      have e1 := of_decide_eq_true e1
      have e2 := of_decide_eq_true e2
      subst e1
      subst e2
      obtain ⟨nm, bs, mro, ns, qn, hd, sn, sub, ab, col, del⟩ := cd
      dsimp only at hm e3 e4
      subst hm
      have e3 : del = false := by simpa using e3
      subst e3
      subst e4
      have hsl : sl = #[k0, k1, k2, k3, some (.builtin "ValueError.__new__"), k5] := by
        obtain ⟨l⟩ := sl
        simp only at hs
        rw [hs]
      subst hsl
      exact ⟨_, _, _, _, _, _, _, _, _, _, _, _, _, _, _, ho, e5⟩
    · cases q
  · cases q
/-- the cell, the code object of that __init__ -/
def supB (P : Program) (K : PySem.W.Frag) (f D : Addr) : Bool := (match K.lookup f with
  | some ⟨_, _, .func fd, _⟩ => (match fd.closure, fd.code, fd.defaults with
    | [(n, cc)], .ref cda, .none => decide (n = ("__class__" : Str)) && ((match K.lookup cc with
      | some ⟨_, _, .cell (some (.ref D')), _⟩ => decide (D' = D)
      | _ => false) && ((match K.lookup cda with
      | some ⟨_, _, .fields vs, _⟩ => (match (vs[2]? : Option Value) with
        | some (.str file _) => ((P.main.file : Str) == file)
        | _ => false)
      | _ => false) && PySem.W.codeIn K (.ref cda) fd.qualname))
    | _, _, _ => false)
  | _ => false) && ((PySem.W.clsIn K D).isSome && (!(P.main.scope.names.lookup ("super" : Str)).isSome && eqO (PySem.W.nsIn K cStatics "thirdparty.any") (some none)))
def insB (K : PySem.W.Frag) (C D : Addr) (flds : List Str) : Bool := oexB K C && (decide (PySem.W.mroIn K C (.ref D) = some true) && (eqO (PySem.W.ks_superIn K C D "__init__") (some (some (.builtin "ValueError.__init__"))) && (decide (PySem.W.subIn K (.ref C) (.type "ValueError") = some true) &&
  (eqO (PySem.W.findIn K (.ref C) "__init__") (some (some (.ref (ma K D "__init__")))) && (decide (PySem.W.typeIn K (.ref (ma K D "__init__")) = some (.type "function")) && flds.all fun n => eqO (PySem.W.findIn K (.ref C) n) (some none))))))
def excB (K : PySem.W.Frag) (C : Addr) : Bool := eqO (PySem.W.findIn K (.ref C) "__getattribute__") (some (some (.builtin "BaseException.__getattribute__"))) && (eqO (PySem.W.findIn K (.ref C) "__getattr__") (some none) && (decide (PySem.W.subIn K (.ref C) (.type "BaseException") = some true) && (PySem.W.hasDictIn K C &&
  (eqO (PySem.W.findIn K (.ref C) "__class__") (some (some (.builtin "object.__class__"))) && (eqO (PySem.W.specialIn K (.builtin "object.__class__") "__get__") (some (some (.builtin "getset_descriptor.__get__"))) && (decide (PySem.W.takesIn K (.builtin "object.__class__") = some true) && decide (PySem.W.mroIn K C (.type "object") = some true)))))))
def Fx.ok (P : Program) (K : PySem.W.Frag) : Fx → Bool
  | .exn x dn flds => eqO (PySem.W.nsIn K mainGlobals x) (some (some (.ref (ga K x)))) && (insB K (ga K x) (ga K dn) flds && (excB K (ga K x) && supB P K (ma K (ga K dn) "__init__") (ga K dn)))
  | .kit x c b => decide (PySem.W.kitOne K (.ref (ga K x)) (.ref (ga K c)) = some b)
  | .kitB x T b => decide (PySem.W.kitOne K (.ref (ga K x)) (.type T) = some b)
  | .exmB x T b => decide (PySem.W.exmOne K (.ref (ga K x)) (.type T) = some b)
  | .tup x ns => eqO (PySem.W.nsIn K mainGlobals x) (some (some (.ref (ga K x)))) && (decide (ns.length ≤ 1000) && tupB K x (ns.map Dv.int))
theorem excB_ok {K : PySem.W.Frag} {C : Addr} (h : excB K C = true) : ExcC K C ∧ XfC K C := by
  obtain ⟨h1, h⟩ := ba h
  obtain ⟨h2, h⟩ := ba h
  obtain ⟨h3, h⟩ := ba h
  obtain ⟨h4, h⟩ := ba h
  obtain ⟨h5, h⟩ := ba h
  obtain ⟨h6, h⟩ := ba h
  obtain ⟨h7, h8⟩ := ba h
  exact ⟨⟨eqO_ok h1, eqO_ok h2, of_decide_eq_true h3, h4, eqO_ok h5, eqO_ok h6, of_decide_eq_true h7, of_decide_eq_true h8⟩, ⟨eqO_ok h1, eqO_ok h2, of_decide_eq_true h3, h4⟩⟩
/-- what is told of a class -/
structure ExI (P : Program) (K : PySem.W.Frag) (C D f : Addr) (flds : List Str) : Prop where
  ins : InsC K D C
  init : PySem.W.findIn K (.ref C) "__init__" = some (some (.ref f))
  ty : PySem.W.typeIn K (.ref f) = some (.type "function")
  no : ∀ n ∈ flds, PySem.W.findIn K (.ref C) n = some none
  ec : ExcC K C
  xf : XfC K C
theorem exn_ok {P : Program} {K : PySem.W.Frag} {x dn : Str} {flds : List Str} (h : (Fx.exn x dn flds).ok P K = true) : PySem.W.nsIn K mainGlobals x = some (some (.ref (ga K x))) ∧ ExI P K (ga K x) (ga K dn) (ma K (ga K dn) "__init__") flds ∧ supB P K (ma K (ga K dn) "__init__") (ga K dn) = true := by
  obtain ⟨g, h⟩ := ba h
  obtain ⟨h0, h⟩ := ba h
  obtain ⟨hx, hs⟩ := ba h
  obtain ⟨h1, h0⟩ := ba h0
  obtain ⟨h2, h0⟩ := ba h0
  obtain ⟨h3, h0⟩ := ba h0
  obtain ⟨h4, h0⟩ := ba h0
  obtain ⟨h5, h0⟩ := ba h0
  obtain ⟨h6, h7⟩ := ba h0
  obtain ⟨x1, x2⟩ := excB_ok hx
  exact ⟨eqO_ok g, ⟨⟨oexB_ok h1, of_decide_eq_true h2, eqO_ok h3, of_decide_eq_true h4⟩, eqO_ok h5, of_decide_eq_true h6, fun n hn => eqO_ok (List.all_eq_true.mp h7 n hn), x1, x2⟩, hs⟩
/-! ### the __init__ defs -/
abbrev FnI : Type := Option (Str × Str × Arguments × FuncBody × Scope × Addr × List Str × Addr)
def fnI (K : PySem.W.Frag) (dn : Str) : FnI := match K.lookup (ma K (ga K dn) "__init__") with
  | some ⟨_, _, .func fd, _⟩ => some (fd.name, fd.qualname, fd.params, fd.body, fd.scope, fd.globals, fd.closure.map (·.1), fd.builtins)
  | _ => none
structure IniD where
  dn : Str
  name : Str
  qual : Str
  params : Arguments
  body : List Stmt
  scope : Scope
def IniD.val (d : IniD) : FnI := some (d.name, d.qual, d.params, .stmts d.body, d.scope, mainGlobals, ["__class__"], builtinsNs)
/-- an __init__ def as it lies -/
structure IniI (P : Program) (K : PySem.W.Frag) (d : IniD) (f D : Addr) (fd : FuncData) : Prop where
  ex : ∃ (oc : Value) (od : Option Addr) (kV doc pm : Value) (an : Option Addr) (cc cda : Addr) (ct : Value) (osl : Array (Option Value)), fd = PySem.W.fnX d.name d.qual d.params d.body d.scope [("__class__", cc)] .none kV doc pm an (.ref cda) ct ∧
    K.lookup f = some ⟨oc, od, .func fd, osl⟩ ∧ PySem.W.codeIn K (.ref cda) d.qual = true ∧ SupC P K D cc cda
theorem ini_of {P : Program} {K : PySem.W.Frag} {d : IniD} (e : fnI K d.dn = d.val) (h : supB P K (ma K (ga K d.dn) "__init__") (ga K d.dn) = true) : ∃ fd, IniI P K d (ma K (ga K d.dn) "__init__") (ga K d.dn) fd := by
  obtain ⟨q, h⟩ := ba h
  obtain ⟨h1, h⟩ := ba h
  obtain ⟨h2, h3⟩ := ba h
  unfold fnI at e
  cases hl : K.lookup (ma K (ga K d.dn) "__init__") with
  | none =>
    rw [hl] at q
    cases q
  | some o =>
    obtain ⟨oc, od, dt, osl⟩ := o
    rw [hl] at q e
    cases dt with
    | func fd =>
      obtain ⟨n1, n2, n3, n4, n5, n6, n7, n8, n9, n10, n11, n12, n13, n14, n15⟩ := fd
      have e2 : (some (n1, n2, n3, n4, n5, n6, n7.map (·.1), n15) : FnI) = some (d.name, d.qual, d.params, FuncBody.stmts d.body, d.scope, mainGlobals, [("__class__" : Str)], builtinsNs) := e
      simp only [Option.some.injEq, Prod.mk.injEq] at e2
      obtain ⟨g1, g2, g3, g4, g5, g6, g7, g8⟩ := e2
      dsimp only at q
      split at q
      · rename_i n cc cda
        obtain ⟨q1, q⟩ := ba q
        obtain ⟨q2, q⟩ := ba q
        obtain ⟨q3, q4⟩ := ba q
        have q1 := of_decide_eq_true q1
        subst q1
        subst g1 g2 g3 g4 g5 g6 g8
        refine ⟨_, oc, od, n9, n10, n11, n12, cc, cda, n14, osl, rfl, hl, q4, ?_⟩
        constructor
        · split at q2
          · rename_i cl cld D' csl ho
            have := of_decide_eq_true q2
            subst this
            exact ⟨_, _, _, ho⟩
          · cases q2
        · exact Option.isSome_iff_exists.mp h1
        · split at q3
          · rename_i ccl cdd vs ccs ho
            split at q3
            · rename_i file tf hv
              exact ⟨_, _, _, _, _, _, ho, hv, q3⟩
            · cases q3
          · cases q3
        · simpa using h2
        · exact eqO_ok h3
      · cases q
    | _ => cases q
/-! ### the Hook -/
def asS (g : Addr → Option Obj) : Nat → List Addr
  | 0 => [mainGlobals, cStatics]
  | n + 1 => growD g (asS g n)
abbrev AlS : Type := AlD × Bool × List FnI
structure Says (P : Program) (fa : List Fa) (fn : List DefD) (fx : List Fx) (fi : List IniD) (K : PySem.W.Frag) : Prop where
  d : SaysD fa fn K
  x : ∀ f ∈ fx, Fx.ok P K f = true
  i : ∀ d ∈ fi, fnI K d.dn = d.val
def obsS (P : Program) (fa : List Fa) (fn : List DefD) (fx : List Fx) (fi : List IniD) (K : PySem.W.Frag) : AlS := (obsD fa fn K, fx.all (Fx.ok P K), fi.map fun d => fnI K d.dn)
def valS (fn : List DefD) (fi : List IniD) : AlS := (valD fn, true, fi.map IniD.val)
theorem says_of {P : Program} {fa : List Fa} {fn : List DefD} {fx : List Fx} {fi : List IniD} {K : PySem.W.Frag} (e : obsS P fa fn fx fi K = valS fn fi) : Says P fa fn fx fi K := by
  have e1 : obsD fa fn K = valD fn := congrArg (fun z : AlS => z.1) e
  have e2 : fx.all (Fx.ok P K) = true := congrArg (fun z : AlS => z.2.1) e
  have e3 : (fi.map fun d => fnI K d.dn) = fi.map IniD.val := congrArg (fun z : AlS => z.2.2) e
  exact ⟨e1, List.all_eq_true.mp e2, fun d hd => (List.map_inj_left.mp e3) d hd⟩
def obsSG (P : Program) (n : Nat) (fa : List Fa) (fn : List DefD) (fx : List Fx) (fi : List IniD) (g : Addr → Option Obj) : AlS := obsS P fa fn fx fi (frG g (asS g n))
def hookS (P : Program) (n : Nat) (fa : List Fa) (fn : List DefD) (fx : List Fx) (fi : List IniD) : PySem.W.Hook where
  α := AlS
  obs := fun s => obsSG P n fa fn fx fi s.heap.get?
  val := fun _ => valS fn fi
  says := fun _ h => ∃ K : PySem.W.Frag, K.In h ∧ Says P fa fn fx fi K
  of := fun _ _ e => ⟨_, frG_in, says_of e⟩
  keeps := fun _ _ _ ⟨K, hK, c⟩ k => ⟨K, PySem.W.Frag.In.keeps hK k, c⟩
theorem obsSG_eq {P : Program} {n : Nat} {fa : List Fa} {fn : List DefD} {fx : List Fx} {fi : List IniD} {g : Addr → Option Obj} {s : Shared} (h : ∀ a, g a = s.heap.get? a) : obsSG P n fa fn fx fi g = (hookS P n fa fn fx fi).obs s := by
  have e : g = s.heap.get? := funext h
  rw [e] <;> rfl
end GH

set_option Elab.async false
set_option linter.all false
set_option maxRecDepth 100000
/-! From the head's facts to the layer; parallel targets. -/
namespace G
open PySem PySem.Spec PyProof.Rows L2 RZ GXS He GH
/-- the module is as the head says -/
structure InA (m : Mo) (fa : List Fa) (fn : List DefD) (fx : List Fx) (fi : List IniD) : Prop where
  ex : ∃ h : Heap, m.K.In h ∧ h.Ns mainGlobals m.mg ∧ Says m.P fa fn fx fi m.K
section
variable {m : Mo} {fa : List Fa} {fn : List DefD} {fx : List Fx} {fi : List IniD}
theorem InA.glo (I : InA m fa fn fx fi) (i : Nat) {x : Str} (h : fa[i]? = some (.glo x) := by rfl) : m.mg x = some (.ref (ga m.K x)) := by
  obtain ⟨hp, X, N, c⟩ := I.ex
  exact glo_ok X N (c.d.fact i h)
theorem InA.free (I : InA m fa fn fx fi) (i : Nat) {x : Str} (h : fa[i]? = some (.free x) := by rfl) : m.mg x = none := by
  obtain ⟨hp, X, N, c⟩ := I.ex
  exact free_ok X N (c.d.fact i h)
theorem InA.int (I : InA m fa fn fx fi) (i : Nat) {x : Str} {n : Int} (h : fa[i]? = some (.int x n) := by rfl) : GVal m.C x (.int n) := by
  obtain ⟨hp, X, N, c⟩ := I.ex
  obtain ⟨t, e⟩ := int_ok X N (c.d.fact i h)
  exact ⟨.int n t, .int n, e, ⟨t, rfl⟩, fun G => .int n⟩
theorem InA.str (I : InA m fa fn fx fi) (i : Nat) {x z : Str} (h : fa[i]? = some (.str x z) := by rfl) : GVal m.C x (.str z) := by
  obtain ⟨hp, X, N, c⟩ := I.ex
  obtain ⟨t, e⟩ := str_ok X N (c.d.fact i h)
  exact ⟨.str z t, .str z, e, ⟨t, rfl⟩, fun G => .str z⟩
theorem InA.fnv (I : InA m fa fn fx fi) (i : Nat) {x : Str} (h : fa[i]? = some (.glo x) := by rfl) : GVal m.C x (.fn x) :=
  ⟨_, .ref (ga m.K x), I.glo i h, rfl, fun G => .fn (I.glo i h)⟩
theorem InA.exm (I : InA m fa fn fx fi) (i : Nat) {x y : Str} {b : Bool} (h : fa[i]? = some (.exm x y b) := by rfl) : PySem.W.exmOne m.K (.ref (ga m.K x)) (.ref (ga m.K y)) = some b := by
  obtain ⟨hp, X, N, c⟩ := I.ex
  exact exm_ok (c.d.fact i h)
theorem InA.fxo (I : InA m fa fn fx fi) (i : Nat) {f : Fx} (h : fx[i]? = some f := by rfl) : Fx.ok m.P m.K f = true := by
  obtain ⟨hp, X, N, c⟩ := I.ex
  exact c.x f (List.mem_of_getElem? h)
theorem reps_int {C : KM} {G : Hp} : ∀ ns : List Int, Reps C G ((ns.map Dv.int).map (Dv.v C.K)) (ns.map D.int)
  | [] => .nil
  | n :: r => .cons (.int n) (reps_int r)
/-- a tuple of ints among the module's names -/
theorem InA.tupI (I : InA m fa fn fx fi) (i : Nat) {x : Str} {ns : List Int} (h : fx[i]? = some (.tup x ns) := by rfl) : GVal m.C x (.tup (ns.map D.int)) := by
  obtain ⟨hp, X, N, c⟩ := I.ex
  obtain ⟨h1, h2⟩ := ba (I.fxo i h)
  obtain ⟨h3, h4⟩ := ba h2
  have h3 := of_decide_eq_true h3
  refine ⟨.ref (ga m.K x), .ref (ga m.K x), PySem.W.mg_of X N (eqO_ok h1), rfl, fun G => .tup (tupB_ok h4 G) ?_ (reps_int ns)⟩
  rw [List.length_map, List.length_map, sizeLine_eq]
  omega
theorem InA.exn (I : InA m fa fn fx fi) (i : Nat) {x dn : Str} {flds : List Str} (h : fx[i]? = some (.exn x dn flds) := by rfl) : m.mg x = some (.ref (ga m.K x)) ∧ ExI m.P m.K (ga m.K x) (ga m.K dn) (ma m.K (ga m.K dn) "__init__") flds ∧ supB m.P m.K (ma m.K (ga m.K dn) "__init__") (ga m.K dn) = true := by
  obtain ⟨hp, X, N, c⟩ := I.ex
  obtain ⟨h1, h2⟩ := exn_ok (I.fxo i h)
  exact ⟨PySem.W.mg_of X N h1, h2⟩
theorem InA.ini (I : InA m fa fn fx fi) (i : Nat) {d : IniD} (h : fi[i]? = some d) (hs : supB m.P m.K (ma m.K (ga m.K d.dn) "__init__") (ga m.K d.dn) = true) : ∃ fd, IniI m.P m.K d (ma m.K (ga m.K d.dn) "__init__") (ga m.K d.dn) fd := by
  obtain ⟨hp, X, N, c⟩ := I.ex
  exact ini_of (c.i d (List.mem_of_getElem? h)) hs
/-- a def of the module, kept -/
structure Has (m : Mo) (k : Nat) (x : Str) (ps : List Str) (g : List D → Kp → Out D) : Prop where
  ex : ∃ fd, FnD m k (ga m.K x) fd ps g ∧ Binds m.K fd ps []
  mg : m.mg x = some (.ref (ga m.K x))
  kp : PySem.W.keepIn m.K (.ref (ga m.K x)) = true
theorem Has.mono {j k : Nat} {x : Str} {ps : List Str} {g : List D → Kp → Out D} (H : Has m j x ps g) (h : j ≤ k) : Has m k x ps g := by
  obtain ⟨fd, F, b⟩ := H.ex
  exact ⟨⟨fd, F.mono h, b⟩, H.mg, H.kp⟩
theorem has_of {k : Nat} {d : DefD} {N ps : List Str} {cs : Option Nat} {cp : Bool} {b : Ss → Fl} (I : InA m fa fn fx fi) (i j : Nat) (S : FnScope N ps d.scope)
    (hbind : ∀ (kV doc pm : Value) (an : Option Addr) (cdv ct : Value) (us : List Value), us.length = ps.length → bindArgs (PySem.W.fnOf d.name d.qual d.params d.body d.scope .none kV doc pm an cdv ct) ⟨us, []⟩ = pure (ps.zip us))
    (hbody : ∀ (cdv : Value) (A : Around) (outer : List Env) (s : Shared) (H : Hp) (E : XK), A.guards = some [] → Room k (A.deeper (envOfC d.qual d.scope s.heap.objs.size (ga m.K d.name) cdv)) → Takes (cxG m N d.qual d.scope (ga m.K d.name) cdv A outer s H E) (fun cls d _ H => E cls d H) →
      PassesOwn (model m.P m.w) (cxG m N d.qual d.scope (ga m.K d.name) cdv A outer s H E).A (cxG m N d.qual d.scope (ga m.K d.name) cdv A outer s H E).env (cxG m N d.qual d.scope (ga m.K d.name) cdv A outer s H E).xe →
      SXs (cxG m N d.qual d.scope (ga m.K d.name) cdv A outer s H E) cs (fun cls d _ H => E cls d H) d.body b)
    (hi : fn[i]? = some d := by rfl) (hj : fa[j]? = some (.glo d.name) := by rfl) (ha : d.at_ = (d.name, none) := by rfl) (hd : d.dfl = [] := by rfl) (hk : d.kwd = [] := by rfl) (hcp : cp = true → ∃ c, cs = some c := by first | exact fun _ => ⟨_, rfl⟩ | exact fun z => nomatch z) :
    Has m (k + 1) d.name ps (fdef N.length cs cp b) := by
  obtain ⟨hp, X, N', c⟩ := I.ex
  obtain ⟨fd, F⟩ := c.d.def_ i hi
  have e1 : d.dvs m.K = [] := by unfold DefD.dvs; rw [hd]; rfl
  have e2 : d.kws m.K = [] := by unfold DefD.kws; rw [hk]; rfl
  have e3 : fAd m.K d.at_ = ga m.K d.name := by rw [ha]; rfl
  rw [e1, e2, e3] at F
  refine ⟨⟨fd, ?_, F.bindsN hbind⟩, I.glo j hj, F.kp⟩
  obtain ⟨oc, od, dV, kV, doc, pm, an, cdv, ct, osl, rfl, lk, hcd, _, _⟩ := F.ex
  exact fnd_of lk hcd S hcp fun A outer s H E => hbody cdv A outer s H E
variable {X : Cx} {cs : Option Nat} {W : WX}
theorem px_callH {k j : Nat} {xs ps : List Str} {sc : Scope} {x : Str} {p pos : Pos} {e : Expr} {es : List Expr} {g : List D → Kp → Out D} {fs : M (List D)} (i : Nat) (h : glB xs sc = true) (F : Has m k x ps g) (hm : InM m X) (hg : X.A.guards = some []) (hr : Room j X.A) (hkj : k ≤ j) (tk : Takes X W)
    (ha : AX X cs W (e :: es) fs) (esc : X.env.scope = sc := by rfl) (hi : xs[i]? = some x := by rfl) (he : starEach (e :: es) X.env = (false, eval e X.env) :: starEach es X.env := by rfl) (hpl : (backTo pos (starEach es X.env)).any (·.1) = false := by rfl) :
    PX X cs W (.Call (.Name x p) (e :: es) [] pos) (eCall ps.length g fs) := by
  obtain ⟨fd, F1, hb⟩ := F.ex
  exact px_call i h F1 hm hg (hr.mono hkj) tk hb F.mg F.kp ha esc hi he hpl
theorem px_callH0 {k j : Nat} {xs : List Str} {sc : Scope} {x : Str} {p pos : Pos} {g : List D → Kp → Out D} (i : Nat) (h : glB xs sc = true) (F : Has m k x [] g) (hm : InM m X) (hg : X.A.guards = some []) (hr : Room j X.A) (hkj : k ≤ j) (tk : Takes X W)
    (esc : X.env.scope = sc := by rfl) (hi : xs[i]? = some x := by rfl) : PX X cs W (.Call (.Name x p) [] [] pos) (eCall 0 g aNil) := by
  obtain ⟨fd, F1, hb⟩ := F.ex
  exact px_call0 i h F1 hm hg (hr.mono hkj) tk hb F.mg F.kp esc hi
/-- an error class with one field: what a raise needs -/
structure Mk1 (m : Mo) (x f1 : Str) : Prop where
  mg : m.mg x = some (.ref (ga m.K x))
  ex : ∃ D fI fd, InsC m.K D (ga m.K x) ∧ PySem.W.findIn m.K (.ref (ga m.K x)) "__init__" = some (some (.ref fI)) ∧ PySem.W.typeIn m.K (.ref fI) = some (.type "function") ∧ PySem.W.findIn m.K (.ref (ga m.K x)) f1 = some none ∧
    FnOk m.P m.w m.K m.mg m.base (L2.CX m.P m.w) 1 fI fd ["self", f1] (spS m.K D (N1 f1) 2 (tCons (tVar 1) tNil) (bd1 m.K f1)) ∧ Binds m.K fd ["self", f1] []
structure Mk2 (m : Mo) (x f1 f2 : Str) : Prop where
  mg : m.mg x = some (.ref (ga m.K x))
  ex : ∃ D fI fd, InsC m.K D (ga m.K x) ∧ PySem.W.findIn m.K (.ref (ga m.K x)) "__init__" = some (some (.ref fI)) ∧ PySem.W.typeIn m.K (.ref fI) = some (.type "function") ∧ PySem.W.findIn m.K (.ref (ga m.K x)) f1 = some none ∧ PySem.W.findIn m.K (.ref (ga m.K x)) f2 = some none ∧
    FnOk m.P m.w m.K m.mg m.base (L2.CX m.P m.w) 1 fI fd ["self", f1, f2] (spS m.K D (N2 f1 f2) 3 (tCons (tVar 1) (tCons (tVar 2) tNil)) (bd2 m.K f1 f2)) ∧ Binds m.K fd ["self", f1, f2] []
theorem mk1_of {x dn f1 : Str} (I : InA m fa fn fx fi) (i j : Nat) {d : IniD} (hx : fx[i]? = some (.exn x dn [f1])) (hd : fi[j]? = some d) (hdn : d.dn = dn)
    (ok : ∀ fI D fd, IniI m.P m.K d fI D fd → FnOk m.P m.w m.K m.mg m.base (L2.CX m.P m.w) 1 fI fd ["self", f1] (spS m.K D (N1 f1) 2 (tCons (tVar 1) tNil) (bd1 m.K f1)) ∧ Binds m.K fd ["self", f1] []) : Mk1 m x f1 := by
  obtain ⟨h1, h2, h3⟩ := I.exn i hx
  subst hdn
  obtain ⟨fd, F⟩ := I.ini j hd h3
  obtain ⟨o1, o2⟩ := ok _ _ _ F
  exact ⟨h1, _, _, fd, h2.ins, h2.init, h2.ty, h2.no f1 (by simp), o1, o2⟩
theorem mk2_of {x dn f1 f2 : Str} (I : InA m fa fn fx fi) (i j : Nat) {d : IniD} (hx : fx[i]? = some (.exn x dn [f1, f2])) (hd : fi[j]? = some d) (hdn : d.dn = dn)
    (ok : ∀ fI D fd, IniI m.P m.K d fI D fd → FnOk m.P m.w m.K m.mg m.base (L2.CX m.P m.w) 1 fI fd ["self", f1, f2] (spS m.K D (N2 f1 f2) 3 (tCons (tVar 1) (tCons (tVar 2) tNil)) (bd2 m.K f1 f2)) ∧ Binds m.K fd ["self", f1, f2] []) : Mk2 m x f1 f2 := by
  obtain ⟨h1, h2, h3⟩ := I.exn i hx
  subst hdn
  obtain ⟨fd, F⟩ := I.ini j hd h3
  obtain ⟨o1, o2⟩ := ok _ _ _ F
  exact ⟨h1, _, _, fd, h2.ins, h2.init, h2.ty, h2.no f1 (by simp), h2.no f2 (by simp), o1, o2⟩
theorem mx_1 {j : Nat} {xs : List Str} {sc : Scope} {x f1 : Str} {p pos : Pos} {e : Expr} {es : List Expr} {fs : M (List D)} (i : Nat) (h : glB xs sc = true) (F : Mk1 m x f1) (hm : InM m X) (hr : Room j X.A) (hj : 2 ≤ j) (ha : AX X cs W (e :: es) fs)
    (esc : X.env.scope = sc := by rfl) (hi : xs[i]? = some x := by rfl) (he : starEach (e :: es) X.env = (false, eval e X.env) :: starEach es X.env := by rfl) (hpl : (backTo pos (starEach es X.env)).any (·.1) = false := by rfl) :
    MX X cs W (.Call (.Name x p) (e :: es) [] pos) (eExn (dExn x [f1]) fs) := by
  obtain ⟨g1, D, fI, fd, h1, h2, h3, h4, h5, h6⟩ := F
  obtain ⟨a1, a2, a3, a4, a5⟩ := hm
  rw [← a3] at h1 h2 h3 h4 h5 h6 g1
  rw [← a4] at h5 g1
  rw [← a1, ← a2, ← a5] at h5
  exact mx_make1 i h h1 h2 h3 h4 h5 (hr.mono hj) h6 g1 ha esc hi he hpl
theorem mx_2 {j : Nat} {xs : List Str} {sc : Scope} {x f1 f2 : Str} {p pos : Pos} {e : Expr} {es : List Expr} {fs : M (List D)} (i : Nat) (h : glB xs sc = true) (F : Mk2 m x f1 f2) (hm : InM m X) (hr : Room j X.A) (hj : 2 ≤ j) (ha : AX X cs W (e :: es) fs)
    (esc : X.env.scope = sc := by rfl) (hi : xs[i]? = some x := by rfl) (he : starEach (e :: es) X.env = (false, eval e X.env) :: starEach es X.env := by rfl) (hpl : (backTo pos (starEach es X.env)).any (·.1) = false := by rfl) :
    MX X cs W (.Call (.Name x p) (e :: es) [] pos) (eExn (dExn x [f1, f2]) fs) := by
  obtain ⟨g1, D, fI, fd, h1, h2, h3, h4, h4', h5, h6⟩ := F
  obtain ⟨a1, a2, a3, a4, a5⟩ := hm
  rw [← a3] at h1 h2 h3 h4 h4' h5 h6 g1
  rw [← a4] at h5 g1
  rw [← a1, ← a2, ← a5] at h5
  exact mx_make2 i h h1 h2 h3 h4 h4' h5 (hr.mono hj) h6 g1 ha esc hi he hpl
end
/-! ### a, b = x, y -/
theorem ax_use {C : KM} {cs : Option Nat} {W : WX} {σ : St} {s : Ss} {G H : Hp} {ft : Nat → List Addr} {t : TA} {f : M (List D)} {Q : List V → Hp → Prop} (h : AXt C cs W t f) (v : SV C G H cs σ s ft) (u : Use C cs W σ s G H ft (fun ds G' H' _ => ∀ ws, ArgsR C G' (cA cs [] ft) ws ds → Q ws H') (eR cs [] (fun _ => true) f s)) : t σ H Q :=
  h.run σ _ _ _ _ _ Q (v.ev []) (use_res v u fun d G' G2 H' s' c r ws hw => by
    rcases c with c | ⟨c0, _⟩
    · subst c; exact r ws hw
    · exact absurd rfl c0)
def bPar (cs : Option Nat) (i j : Nat) (f : M (List D)) : Ss → Fl := fun s => (eR cs [] (fun _ => true) f s).fl cs s fun ds s => match ds with
  | [x, y] => if (!x.isCel && !y.isCel) = true then .nx ((s.asg [i] (s.ρ.set i (some x))).asg [j] ((s.ρ.set i (some x)).set j (some y))) else .bad
  | _ => .bad
theorem sx_par {C : KM} {cs : Option Nat} {W : WX} {ta : TA} {f : M (List D)} {i j : Nat} (hi : csOk cs i = true) (hj : csOk cs j = true) (h : AXt C cs W ta f) : SXt C cs W (tPar i j ta) (bPar cs i j f) := by
  refine ⟨fun σ s G H ft D v k => ax_use h v (use_fl k fun ds G' H' s' v' l k' ws ar => ?_)⟩
  match ds, k', ar with
  | [x, y], k', ar =>
    dsimp only at k'
    split at k'
    case isFalse => exact (show False from k').elim
    rename_i hc
    obtain ⟨c1, c2⟩ := Bool.and_eq_true_iff.mp hc
    cases ar with
    | cel _ _ => cases c1
    | val r1 ar =>
      cases ar with
      | cel _ _ => cases c2
      | val r2 ar =>
        cases ar
        rename_i v1 v2
        obtain ⟨ft1, l1⟩ := v'.asg (vs := [i]) (cs_vs (by simp [hi])) (v'.evc.set hi r1) (by simp) fun k hk => List.getElem?_set_ne fun q => hk (by simp [q])
        obtain ⟨ft2, l2⟩ := l1.sv.asg (vs := [j]) (cs_vs (by simp [hj])) (l1.sv.evc.set hj r2) (by simp) fun k hk => List.getElem?_set_ne fun q => hk (by simp [q])
        exact ⟨v1, v2, rfl, k' _ _ _ _ (l1.trans l2)⟩
theorem st_par {X : Cx} {cs : Option Nat} {W : WX} {is : List Nat} {N : List Str} {sc : Scope} {x y : Str} {a b : Expr} {fs : M (List D)} {px py pt : Pos} {kt k2 : Nat} {pt2 pos : Pos} (i j : Nat) (h : lcB is N sc = true) (nd : N.Nodup) (hc : X.calm = true) (ha : AX X cs W [a, b] fs)
    (eN : X.N = N := by rfl) (esc : X.env.scope = sc := by rfl) (hi : is.contains i = true := by rfl) (hj : is.contains j = true := by rfl) (hNi : N[i]? = some x := by rfl) (hNj : N[j]? = some y := by rfl) (hij : i ≠ j := by decide)
    (hw : swappedStores [.Tuple [.Name x px, .Name y py] kt pt] (.Tuple [a, b] k2 pt2) X.env = pure (some [x, y]) := by rfl)
    (hs : swapsWithSole [.Tuple [.Name x px, .Name y py] kt pt] (.Tuple [a, b] k2 pt2) pos.line X.env = pure false := by rfl) (hci : csOk cs i = true := by rfl) (hcj : csOk cs j = true := by rfl) :
    SX X cs W (.Assign [.Tuple [.Name x px, .Name y py] kt pt] (.Tuple [a, b] k2 pt2) pos) (bPar cs i j fs) := by
  obtain ⟨t, p, q⟩ := ha
  have l1 := lc_of h hi hNi
  have l2 := lc_of h hj hNj
  rw [← esc] at l1 l2
  rw [← eN] at nd hNi hNj
  exact ⟨_, ps_par hc nd hNi hNj hij l1 l2 p hw hs, sx_par hci hcj q⟩
end G

set_option Elab.async false
set_option linter.all false
set_option maxRecDepth 100000
/-! Ways into a text: the statement, the expression at a place; the scope of a comprehension. -/
namespace G
open PySem
def noS : Stmt := .Pass ⟨0, 0, 0, 0⟩
def noE : Expr := .Constant .none 0 ⟨0, 0, 0, 0⟩
/-- the j-th statement of a block; of the else's block -/
def kS (j : Nat) : Stmt → Stmt
  | .FunctionDef _ _ b .. => b.getD j noS
  | .ClassDef _ _ _ b .. => b.getD j noS
  | .For _ _ b _ _ => b.getD j noS
  | .While _ b _ _ => b.getD j noS
  | .If _ b _ _ => b.getD j noS
  | .Try b .. => b.getD j noS
  | _ => noS
def kO (j : Nat) : Stmt → Stmt
  | .For _ _ _ b _ => b.getD j noS
  | .While _ _ b _ => b.getD j noS
  | .If _ _ b _ => b.getD j noS
  | _ => noS
/-- a statement's expression -/
def kV : Stmt → Expr
  | .Return (some e) _ => e
  | .Assign _ e _ => e
  | .AugAssign _ _ e _ => e
  | .For _ e _ _ _ => e
  | .While e _ _ _ => e
  | .If e _ _ _ => e
  | .Raise (some e) _ _ => e
  | .Expr e _ => e
  | _ => noE
/-- a target's expression: the place that is set -/
def kT : Stmt → Expr
  | .Assign (.Subscript _ k _ :: _) _ _ => k
  | _ => noE
/-- the j-th expression within -/
def kE (j : Nat) : Expr → Expr
  | .BoolOp _ vs _ => vs.getD j noE
  | .BinOp l _ r _ => if j = 0 then l else r
  | .UnaryOp _ e _ => e
  | .IfExp c a b _ => if j = 0 then c else if j = 1 then a else b
  | .ListComp e gs _ _ => (match gs with
    | g :: _ => if j = 0 then e else if j = 1 then g.iter else g.ifs.getD (j - 2) noE
    | [] => noE)
  | .GeneratorExp e gs _ _ => (match gs with
    | g :: _ => if j = 0 then e else if j = 1 then g.iter else g.ifs.getD (j - 2) noE
    | [] => noE)
  | .Compare a _ cs _ => if j = 0 then a else cs.getD (j - 1) noE
  | .Call f as _ _ => if j = 0 then f else as.getD (j - 1) noE
  | .Attribute e _ _ => e
  | .Subscript e i _ => if j = 0 then e else i
  | .List es _ => es.getD j noE
  | .Tuple es _ _ => es.getD j noE
  | .Slice l h _ _ => if j = 0 then l.getD noE else h.getD noE
  | _ => noE
def kC : Expr → Scope
  | .ListComp _ _ s _ => s
  | .GeneratorExp _ _ s _ => s
  | _ => { kind := .function, names := [], isGenerator := false, isCoroutine := false, more := [] }
open PySem.Spec PyProof.Rows L2 RZ GXS He GH
theorem names_of {X : Cx} {xs : List Str} {sc : Scope} {x : Str} {a : Addr} (i : Nat) (h : glB xs sc = true) (hm : X.mg x = some (.ref a)) (esc : X.env.scope = sc := by rfl) (hi : xs[i]? = some x := by rfl) : Names X x (.ref a) := by
  obtain ⟨h1, h2, h3⟩ := gl_of h hi esc
  exact ⟨h1, h2, .inl hm⟩
end G

set_option Elab.async false
set_option linter.all false
set_option maxRecDepth 100000
/-! A def that an except suite calls with its error: two displays of questions, one behind the other. -/
namespace G
open PySem PySem.Spec PyProof.Rows L2 RZ GXS He GH L2H
theorem he_lst {X : Cx} {i : Nat} {es : List Expr} {pos : Pos} {gs : Exn → Option (List D)} (h : HA X i es gs) : HE X i (.List es pos) (fun x => (gs x).bind dLst) := by
  obtain ⟨ts, ps, qs⟩ := h
  refine ⟨_, fun a oe c d pn hz hf => pe_lst (ps a oe c d pn hz hf), fun a c dd x => ⟨fun σ G H Q y s hi xr ho kk => ?_⟩⟩
  obtain ⟨zs, h1, h2⟩ := Option.bind_eq_some_iff.mp ho
  unfold dLst at h2
  split at h2
  · rename_i hl
    cases h2
    refine (qs a c dd x).run σ G H _ zs s hi xr h1 fun G1 H1 vs al rs => ⟨by rw [rs.length]; exact hl, fun p hp => ?_⟩
    exact kk _ _ _ (al.trans (Al.new al.gh hp)) (.lst upd_same (by rw [rs.length]; exact hl) (rs.mono (Sub.new (free_of al.gh hp))))
  · cases h2
/-- a def kept, whose one argument is the error that is handled -/
structure FnE (m : Mo) (k : Nat) (f : Addr) (fd : FuncData) (ps : List Str) (g : Exn → Option D) : Prop where
  one : ps.length = 1
  run : ∀ (A : Around) (outer : List Env) (s : Shared) (H : Hp) (args : Args) (us : List Value) (Q : VK) (a : Addr) (oe : Obj) (cls : Value) (dd : Option Addr) (G : Hp) (x : Exn) (y : D), RoomH k A → A.handled = some (.ref a) → PinOk outer H s (a, oe) → Zc cls dd oe → (∃ vs, oe.data = .fields vs) →
    Env0 m.P m.w m.K m.mg m.base A outer s H → BindsTo s fd args (ps.zip us) → Vals [.ref a] us → Sub G H → ExR m.C G H cls dd x → g x = some y → (∀ G' H' v, Al G H G' H' → Rep m.C G' v y → Q v H') →
    codeAny (model m.P m.w) A (.call (.ref f) args) (CR (L2.CX m.P m.w) outer m.P m.w H s Q (fun _ _ _ => False)) s
/-- the context of such a def's body -/
abbrev cxE (m : Mo) (N : List Str) (qual : Str) (scope : Scope) (f : Addr) (cd : Value) (A : Around) (outer : List Env) (s : Shared) (H : Hp) (a : Addr) (oe : Obj) : Cx := (cxG m N qual scope f cd A outer s H (fun _ _ _ => False)).suite a [(a, oe)]
theorem fne_of {m : Mo} {k : Nat} {f : Addr} {name qual : Str} {params : Arguments} {body : List Stmt} {scope : Scope} {dV kV doc pm cdv ct oc : Value} {an od : Option Addr}
    {osl : Array (Option Value)} {N ps : List Str} {g : Exn → Option D} (lk : m.K.lookup f = some ⟨oc, od, .func (PySem.W.fnOf name qual params body scope dV kV doc pm an cdv ct), osl⟩) (hcd : PySem.W.codeIn m.K cdv qual = true) (S : FnScope N ps scope) (hl1 : ps.length = 1)
    (hbody : ∀ (A : Around) (outer : List Env) (s : Shared) (H : Hp) (Q : VK) (a : Addr) (oe : Obj) (cls : Value) (dd : Option Addr) (G : Hp) (x : Exn) (y : D), Zc cls dd oe → (∃ vs, oe.data = .fields vs) → Sub G H → ExR m.C G H cls dd x → g x = some y → (∀ G' H' v, Al G H G' H' → Rep m.C G' v y → Q v H') →
      ∃ t, PSs (cxE m N qual scope f cdv A outer s H a oe) body t ∧ t { nx := fun _ _ => False, rt := Q } (L2.start N [.ref a]) H) :
    FnE m (k + 1) f (PySem.W.fnOf name qual params body scope dV kV doc pm an cdv ct) ps g := by
  refine ⟨hl1, fun A outer s H args us Q a oe cls dd G x y hr hh hpin hz hf e0 hb r sub xr hg hQ => ?_⟩
  have kp0 : ∀ b o, m.base.get? b = some o → s.heap.get? b = some o := fun b o e => (e0.bs b o e).1
  have KX : m.K.In s.heap := e0.mod.kin.keeps kp0
  have lim : s.heap.NoLimit := e0.mod.nolimit.keeps kp0
  refine codeAny_call_function hr.depth (KX _ _ lk) rfl S.co S.gen rfl (PySem.W.codeRec_of KX hcd) (hb _ _ _ _ ?_)
  refine wpAny_newFunctionEnv_cells S.kind (fun y hy => ?_) fun env he s1 xx => ?_
  · obtain ⟨n, v⟩ := y
    rcases S.par n (List.of_mem_zip hy).1 with q | q
    · exact .inl q
    · exact .inr ⟨q, PySem.W.cellsFrom_some _ _ _ (.inl q)⟩
  subst he
  obtain ⟨t, ht, hq⟩ := hbody A outer s H Q a oe cls dd G x y hz hf sub xr hg hQ
  have I0 : Inv (cxH (L2.CX m.P m.w) m.P m.w m.K m.mg m.base N qual scope f cdv A outer s H (fun _ _ _ => False) (a, oe)) [] (L2.start N [.ref a]) H s1 := inv_startH S hpin e0 (by rw [hl1]; rfl) r xx
  have eA : (A.deeper (envOfC qual scope s.heap.objs.size f cdv)).mark (some (.ref a)) = A.deeper (envOfC qual scope s.heap.objs.size f cdv) := by
    obtain ⟨h1, h2, h3, h4, h5⟩ := A
    have hh : h1 = some (.ref a) := hh
    subst hh
    rfl
  have I : Inv (cxE m N qual scope f cdv A outer s H a oe) [] (L2.start N [.ref a]) H s1 := by
    refine ⟨⟨I0.ok.mod, I0.ok.kind, I0.ok.glob, I0.ok.blt, I0.ok.above, I0.ok.inj, I0.ok.has, I0.ok.cab, fun z => (nomatch (show false = true from z)), ?_, I0.ok.stk, I0.ok.exf, I0.ok.bs, I0.ok.bsz, I0.ok.noex, I0.ok.exfs, I0.ok.funs, I0.ok.frf⟩, I0.os, I0.bare, I0.base, I0.loc, I0.cell, I0.free, I0.freeC, I0.pin, I0.hok, I0.len⟩
    exact I0.ok.frames
  have fin : ∀ {σ' : L2.St} {H' : Hp} {v : V} {u : Value} {s' : Shared}, Inv (cxE m N qual scope f cdv A outer s H a oe) [] σ' H' s' → RelV v u → Q v H' → CE outer m.P m.w H s Q u s' :=
    fun {σ' H' v u s'} J rv q => ⟨v, H', J.os, J.bare, J.base, J.hok, rv, q⟩
  have run := ht.run [] s1 (L2.start N [.ref a]) H _ I hq
  have eX : (cxE m N qual scope f cdv A outer s H a oe).A = A.deeper (envOfC qual scope s.heap.objs.size f cdv) := eA
  rw [eX] at run
  refine ⟨lim.keeps xx.toInCall.keep, codeAny_func (wpAny_mono run (fun fl s' hs => ?_) fun e s' hs => False.elim hs)⟩
  cases fl with
  | next =>
    obtain ⟨σ', H', J, q⟩ := hs
    exact q.elim
  | ret u =>
    obtain ⟨v, σ', H', J, rv, q⟩ := hs
    exact fin J rv q
  | brk =>
    obtain ⟨_, _, _, q⟩ := hs
    exact q.elim
  | cont =>
    obtain ⟨_, _, _, q⟩ := hs
    exact q.elim
/-- two displays, one behind the other -/
def gTwo (g1 g2 : Exn → Option D) : Exn → Option D := fun x => (g1 x).bind fun y1 => (g2 x).bind fun y2 => dAdd y1 y2
theorem kinds_of {m : Mo} {k : Nat} {f : Addr} {name qual : Str} {params : Arguments} {scope : Scope} {dV kV doc pm cdv ct oc : Value} {an od : Option Addr} {e1 e2 : Expr} {x : Str} {p1 p2 p3 p4 p5 : Pos}
    {osl : Array (Option Value)} {N : List Str} {pn : Str} {g1 g2 : Exn → Option D} {body : List Stmt} (hbd : body = [.Assign [.Name x p1] e1 p2, .Return (some (.BinOp (.Name x p3) .Add e2 p4)) p5]) (lk : m.K.lookup f = some ⟨oc, od, .func (PySem.W.fnOf name qual params body scope dV kV doc pm an cdv ct), osl⟩) (hcd : PySem.W.codeIn m.K cdv qual = true) (S : FnScope N [pn] scope)
    (hN : N = [pn, x]) (hlx : scope.names.lookup x = some .local)
    (h1 : ∀ (A : Around) (outer : List Env) (s : Shared) (H : Hp), HE (cxG m N qual scope f cdv A outer s H (fun _ _ _ => False)) 0 e1 g1) (h2 : ∀ (A : Around) (outer : List Env) (s : Shared) (H : Hp), HE (cxG m N qual scope f cdv A outer s H (fun _ _ _ => False)) 0 e2 g2)
    (hd : (x == ("__debug__" : Str)) = false := by decide) (hcd2 : (x == ("__classdict__" : Str)) = false := by decide)
    (hs : ∀ Y : Cx, swapsWith e1 (some (.Name x p1)) p2.line Y.env = pure false := by intro _; rfl) :
    FnE m (k + 1) f (PySem.W.fnOf name qual params body scope dV kV doc pm an cdv ct) [pn] (gTwo g1 g2) := by
  refine fne_of lk hcd S rfl fun A outer s H Q a oe cls dd G x0 y hz hf sub xr hg hQ => ?_
  obtain ⟨t1, q1, r1⟩ := h1 A outer s H
  obtain ⟨t2, q2, r2⟩ := h2 A outer s H
  have z1 := q1 a oe cls dd [] hz hf
  have z2 := q2 a oe cls dd [] hz hf
  have hNx : N[1]? = some x := by rw [hN]; rfl
  subst hbd
  refine ⟨tSeq (tAsg (t1 a cls dd) (gName 1)) (tRet (tOp (rAddG m.K) (tVar 1) (t2 a cls dd))), pss_cons (ps_set S.nd hNx (.inl hlx) z1 (hs _) (.inr hlx)) (pss_one (ps_ret (pe_op op_addG (pe_var hNx (.inl hlx) hd hcd2) z2))), ?_⟩
  obtain ⟨y1, e1, hg⟩ := Option.bind_eq_some_iff.mp hg
  obtain ⟨y2, e2, hg⟩ := Option.bind_eq_some_iff.mp hg
  have st : L2.start N [.ref a] = [some (.ref a), none] := by rw [hN]; rfl
  refine (r1 a cls dd x0).run (L2.start N [.ref a]) G H _ y1 sub (by rw [st]; rfl) xr e1 fun G1 H1 v1 al1 rv1 => ?_
  show gName 1 v1 (L2.start N [.ref a]) H1 _
  refine ⟨v1, by rw [st]; rfl, (r2 a cls dd x0).run _ G1 H1 _ y2 al1.gh (by rw [st]; rfl) (xr.al al1) e2 fun G2 H2 v2 al2 rv2 => ?_⟩
  exact sd_add G2 H2 v1 v2 y1 y2 y Q al2.gh (rv1.mono al2.gg) rv2 hg fun G3 H3 u al3 ru => hQ G3 H3 u ((al1.trans al2).trans al3) ru
/-- such a def, named -/
structure HasE (m : Mo) (k : Nat) (x : Str) (ps : List Str) (g : Exn → Option D) : Prop where
  ex : ∃ fd, FnE m k (ga m.K x) fd ps g ∧ Binds m.K fd ps []
  mg : m.mg x = some (.ref (ga m.K x))
  kp : PySem.W.keepIn m.K (.ref (ga m.K x)) = true
/-- its call in a suite -/
theorem he_callE {m : Mo} {X : Cx} {i j k : Nat} {xs ps : List Str} {sc : Scope} {f x : Str} {p p2 pos : Pos} {g : Exn → Option D} (n : Nat) (h : glB xs sc = true) (F : HasE m k f ps g) (hm : InM m X) (hr : Room j X.A) (hkj : k ≤ j) (hN : X.N[i]? = some x) (hv : X.env.scope.names.lookup x = some .local)
    (esc : X.env.scope = sc := by rfl) (hi : xs[n]? = some f := by rfl) (hd : (x == ("__debug__" : Str)) = false := by decide) (hcd : (x == ("__classdict__" : Str)) = false := by decide)
    (he : ∀ Y : Cx, starEach [.Name x p2] Y.env = (false, eval (.Name x p2) Y.env) :: starEach [] Y.env := by intro _; rfl) (hpl : ∀ Y : Cx, (backTo pos (starEach [] Y.env)).any (·.1) = false := by intro _; rfl) :
    HE X i (.Call (.Name f p) [.Name x p2] [] pos) g := by
  obtain ⟨g1, g2, g3⟩ := gl_of h hi esc
  obtain ⟨fd, F1, hb⟩ := F.ex
  obtain ⟨a1, a2, a3, a4, a5⟩ := hm
  have eC : m.C = Cx.C X := by rw [Cx.C, a3, a4]
  refine ⟨fun a cls dd σ H Q => σ[i]? = some (some (.ref a)) ∧ ∃ (G : Hp) (y0 : Exn) (y : D), Sub G H ∧ ExR (Cx.C X) G H cls dd y0 ∧ g y0 = some y ∧ ∀ G' H' v, Al G H G' H' → Rep (Cx.C X) G' v y → Q v H', fun a oe cls dd pn hz hf => ⟨fun pins s σ H Q I q => ?_⟩, fun a cls dd y0 => ⟨fun σ G H Q y s hi xr ho k => ⟨hi, G, y0, y, s, xr, ho, k⟩⟩⟩
  obtain ⟨hσ, G, y0, y, sub, xr, hg, hQ⟩ := q
  refine wpAny_Call_Name_kw (ld_glob (X := X.suite a ((a, oe) :: pn)) I g1 (by rw [show (X.suite a ((a, oe) :: pn)).mg = X.mg from rfl, a4]; exact F.mg) ?_ g2)
  refine PySem.W.callWith_K (h₀ := X.base) I.ok.mod.kin (by rw [show (X.suite a ((a, oe) :: pn)).K = X.K from rfl, a3]; exact F.kp) (thn ((pa_cons (pe_var (X := X.suite a ((a, oe) :: pn)) hN (.inl hv) hd hcd) pa_nil (he _)).run pos pins s σ H (fun vs H1 => vs = [.ref a] ∧ H1 = H) I ⟨_, hσ, rfl, rfl⟩) fun us s1 ⟨vs, H1, I1, r, ev, eH⟩ => ⟨I1.kIn, ?_⟩) (he _) (hpl _)
  subst ev
  subst eH
  have hl : us.length = ps.length := by rw [← r.length, F1.one]; rfl
  have kin : m.K.In s1.heap := by
    have z := I1.kIn
    rw [show (X.suite a ((a, oe) :: pn)).K = X.K from rfl, a3] at z
    exact z
  have b := hb s1 us kin (by rw [List.append_nil]; exact hl)
  rw [List.append_nil] at b
  have P1 := I1.pin (a, oe) (List.mem_append_left _ List.mem_cons_self)
  have hpin : PinOk X.stack H1 s1 (a, oe) := ⟨P1.1, P1.2.1, fun hm => (List.mem_cons.mp (I1.stkSub a hm)).elim P1.2.2.1 P1.2.2.2.1, P1.2.2.2.2⟩
  have e0 : Env0 m.P m.w m.K m.mg m.base (X.A.mark (some (.ref a))) X.stack s1 H1 := by
    have z := I1.env0
    rw [← a1, ← a2, ← a3, ← a4, ← a5]
    exact z
  rw [← eC] at xr hQ
  have run := F1.run (X.A.mark (some (.ref a))) X.stack s1 H1 ⟨us, []⟩ us Q a oe cls dd G y0 y (roomH_of (hr.mono hkj) |> fun z => ⟨z.dp, z.un⟩) rfl hpin hz hf e0 b r sub xr hg hQ
  have eM : model m.P m.w = model X.prog X.w := by rw [a1, a2]
  rw [eM] at run
  refine wpAny_call (codeAny_mono run fun r s' hq => ?_)
  cases r with
  | error e =>
    obtain ⟨_, _, _, _, _, _, _, _, _, _, _, _, z⟩ := hq
    exact z.elim
  | ok fl =>
    cases fl with
    | ret u =>
      have hq' : CE X.stack X.prog X.w H1 s1 Q u s' := by rw [a1, a2]; exact hq
      exact I1.after hq'
    | next => exact False.elim hq
    | brk => exact False.elim hq
    | cont => exact False.elim hq
theorem hasE_of {m : Mo} {fa : List Fa} {fn : List DefD} {fx : List Fx} {fi : List IniD} {d : DefD} {N : List Str} {pn x : Str} {e1 e2 : Expr} {p1 p2 p3 p4 p5 : Pos} {g1 g2 : Exn → Option D} (I : InA m fa fn fx fi) (i j : Nat) (S : FnScope N [pn] d.scope)
    (hbd : d.body = [.Assign [.Name x p1] e1 p2, .Return (some (.BinOp (.Name x p3) .Add e2 p4)) p5])
    (hbind : ∀ (kV doc pm : Value) (an : Option Addr) (cdv ct : Value) (us : List Value), us.length = [pn].length → bindArgs (PySem.W.fnOf d.name d.qual d.params d.body d.scope .none kV doc pm an cdv ct) ⟨us, []⟩ = pure ([pn].zip us))
    (hN : N = [pn, x]) (hlx : d.scope.names.lookup x = some .local)
    (h1 : ∀ cdv (A : Around) (outer : List Env) (s : Shared) (H : Hp), HE (cxG m N d.qual d.scope (ga m.K d.name) cdv A outer s H (fun _ _ _ => False)) 0 e1 g1) (h2 : ∀ cdv (A : Around) (outer : List Env) (s : Shared) (H : Hp), HE (cxG m N d.qual d.scope (ga m.K d.name) cdv A outer s H (fun _ _ _ => False)) 0 e2 g2)
    (hd : (x == ("__debug__" : Str)) = false := by decide) (hcd2 : (x == ("__classdict__" : Str)) = false := by decide)
    (hs : ∀ Y : Cx, swapsWith e1 (some (.Name x p1)) p2.line Y.env = pure false := by intro _; rfl)
    (hi : fn[i]? = some d := by rfl) (hj : fa[j]? = some (.glo d.name) := by rfl) (ha : d.at_ = (d.name, none) := by rfl) (hdf : d.dfl = [] := by rfl) (hk : d.kwd = [] := by rfl) : HasE m 1 d.name [pn] (gTwo g1 g2) := by
  obtain ⟨hp, X, N', c⟩ := I.ex
  obtain ⟨fd, F⟩ := c.d.def_ i hi
  have e1 : d.dvs m.K = [] := by unfold DefD.dvs; rw [hdf]; rfl
  have e2 : d.kws m.K = [] := by unfold DefD.kws; rw [hk]; rfl
  have e3 : fAd m.K d.at_ = ga m.K d.name := by rw [ha]; rfl
  rw [e1, e2, e3] at F
  refine ⟨⟨fd, ?_, F.bindsN hbind⟩, I.glo j hj, F.kp⟩
  obtain ⟨oc, od, dV, kV, doc, pm, an, cdv, ct, osl, rfl, lk, hcd, _, _⟩ := F.ex
  exact kinds_of hbd lk hcd S hN hlx (h1 cdv) (h2 cdv) hd hcd2 hs
end G

set_option Elab.async false
set_option linter.all false
set_option maxRecDepth 100000
/-! The law's def, called at the heap behind the top. -/
namespace G
open PySem PySem.Spec PyProof.Rows L2 RZ GXS He GH
theorem callG {m0 : Heap → Mo} {P : Program} {w : World} {K : PySem.W.Frag} {mg mb : Str → Option Value} {k : Nat} {fa a : Addr} {x : Str} {sp : Sp} {s₁ : Shared} {vs : List Value} {ns : List Int} (em : ∀ b, m0 b = ⟨P, w, K, mg, b⟩)
    (KX : K.In s₁.heap) (hns : s₁.heap.Ns mainGlobals mg) (hb : s₁.heap.Ns builtinsNs mb) (hbb : ∀ x : Str, x ≠ "__name__" → mb x = bootBuiltins x) (hlim : s₁.heap.NoLimit) (hg : s₁.gens = #[])
    (ha : s₁.heap.get? a = some { cls := .type "list", data := .seq vs.toArray }) (hi : IntsAre vs ns) (hl : ns.length ≤ sizeLine) (hr : Room k callerA)
    (F : ∀ base : Heap, K.In base → base.Ns mainGlobals mg → ∃ fd, Binds K fd [x] [] ∧ FnG (m0 base) k fa fd [x] sp)
    (hsp : ∀ H : Hp, Only H → SqL K H a (ns.map V.int) → sp [.ref a] H (fun v _ => v = .bl true) fun _ _ _ => False) :
    codeAny (model P w) callerA (.call (.ref fa) ⟨[.ref a], []⟩) (fun r s' => r = .ok (.ret (.bool true)) ∧ OldK s₁.heap s'.heap ∧ s'.os = s₁.os ∧ AllBare s'.gens) s₁ := by
  have rv := vals_ints hi
  have lenV := hi.length
  have core : ∀ H : Hp, Only H → SqL K H a (ns.map V.int) → HOk P w H s₁.heap → (∀ b, H b ≠ none → b = a) → (H a ≠ none → K.lookup a = none) →
      codeAny (model P w) callerA (.call (.ref fa) ⟨[.ref a], []⟩) (fun r s' => r = .ok (.ret (.bool true)) ∧ OldK s₁.heap s'.heap ∧ s'.os = s₁.os ∧ AllBare s'.gens) s₁ := by
    intro H hO hS hok hA hK
    have is_a : ∀ {b : Addr} {u : HO}, H b = some u → b = a := fun {b u} q => hA b (by rw [q]; simp)
    have seen : ∀ {b : Addr} {o : Obj}, s₁.heap.get? b = some o → H b = none → (hidT s₁.heap H).get? b = some o := fun e n => hidT_get e n
    have notDict : ∀ {b : Addr} {o : Obj} {es : Array DictEntry} {ep : Nat}, s₁.heap.get? b = some o → o.data = .dict es ep → H b = none := fun {b o es ep} e d => by
      cases q : H b with
      | none => rfl
      | some u =>
        have e' := is_a q
        subst e'
        rw [ha] at e
        cases e
        have d' : Data.seq vs.toArray _ = Data.dict es ep := d
        cases d'
    have nsOf : ∀ {b : Addr} {f : Str → Option Value}, s₁.heap.Ns b f → (hidT s₁.heap H).Ns b f := fun {b f} ⟨o, es, ep, e, d, r⟩ => ⟨o, es, ep, seen e (notDict e d), d, r⟩
    have kin : K.In (hidT s₁.heap H) := fun b o e => seen (KX b o e) (by
      cases q : H b with
      | none => rfl
      | some u =>
        have e' := is_a q
        subst e'
        rw [hK (by rw [q]; simp)] at e
        cases e)
    have mod : Mod K mg (hidT s₁.heap H) := ⟨kin, nsOf hns, ⟨mb, nsOf hb, hbb⟩, let ⟨mc, h1, h2⟩ := hlim; ⟨mc, nsOf h1, h2⟩⟩
    have e0 : Env0 P w K mg (hidT s₁.heap H) callerA [] s₁ H := ⟨rfl, mod, fun b o e => of_hidT e, Nat.le_of_eq (hidT_size _ _), trivial, fun b hb => absurd (show b ∈ ([] : List Addr) from hb) (by simp), hok, .of_eq hg⟩
    obtain ⟨fd, hbi, F0⟩ := F _ kin (nsOf hns)
    rw [em] at F0
    refine codeAny_mono (F0.run callerA [] s₁ H ⟨[.ref a], []⟩ [.ref a] [.ref a] _ _ rfl hr e0 (hbi s₁ [.ref a] KX rfl) (.cons rfl .nil) (hsp H hO hS)) fun r s' h => ?_
    cases r with
    | error e =>
      obtain ⟨_, _, _, _, _, _, _, _, _, _, _, _, z⟩ := h
      exact z.elim
    | ok fl =>
      cases fl with
      | next => exact h.elim
      | brk => exact h.elim
      | cont => exact h.elim
      | ret u =>
        obtain ⟨v, H', os, bare, un, hok', r', q⟩ := h
        have q' : v = .bl true := q
        subst q'
        obtain rfl : u = Value.bool true := r'
        refine ⟨rfl, OldK.of_keep fun b o e => ?_, os, bare⟩
        cases q : H b with
        | none => exact un.keep b o e q (by intro z; exact absurd (show b ∈ ([] : List Addr) from z) (by simp)) (by simp)
        | some u =>
          rcases hO b with z | ⟨ob, xs, z⟩
          · rw [q] at z
            cases z
          · obtain ⟨e1, _⟩ := hok b _ z
            obtain ⟨e2, _⟩ := hok' b _ (un.frzs b ob _ z)
            rw [e] at e1
            cases e1
            exact e2
  cases hk : K.lookup a with
  | some o =>
    have e := KX a o hk
    rw [ha] at e
    cases e
    exact core (fun _ => none) (fun _ => .inl rfl) (.inr ⟨_, vs.toArray, _, hk, rfl, rfl, rfl, by rw [List.size_toArray, lenV]; exact hl, by simpa using rv⟩) (fun b u z => nomatch (show (none : Option HO) = some u from z)) (fun b z => absurd rfl z) fun z => absurd rfl z
  | none =>
    have at_a : ∀ {b : Addr}, b = a → (if b = a then some (HO.frz { cls := .type "list", data := .seq vs.toArray } (.lst (ns.map V.int))) else none) = some (HO.frz { cls := .type "list", data := .seq vs.toArray } (.lst (ns.map V.int))) := fun h => if_pos h
    refine core (fun b => if b = a then some (.frz { cls := .type "list", data := .seq vs.toArray } (.lst (ns.map V.int))) else none) (fun b => ?_) (.inl (.inr ⟨{ cls := .type "list", data := .seq vs.toArray }, if_pos rfl⟩)) (fun b u z => ?_) (fun b z => ?_) fun _ => hk
    · by_cases h : b = a
      · exact .inr ⟨_, _, at_a h⟩
      · exact .inl (if_neg h)
    · by_cases h : b = a
      · have z' := (at_a h).symm.trans z
        cases z'
        subst h
        exact ⟨ha, by rw [List.length_map]; exact hl, vs, _, rv, ha⟩
      · have z' := (if_neg h).symm.trans z
        cases z'
    · by_cases h : b = a
      · exact h
      · exact absurd (if_neg h) z
/-- the script as data -/
def scriptD (ns : List Int) : D := .lsf (ns.map .int)
theorem reps_ints {C : KM} {G : Hp} : ∀ ns : List Int, Reps C G (ns.map V.int) (ns.map D.int)
  | [] => .nil
  | n :: r => .cons (.int n) (reps_ints r)
theorem walkG {l : PySem.W.OpenLaw} {n k : Nat} {q : Program} {loose : List Str} {XP : (Str → Option Value) → Heap → Prop} {YP : World → Heap → Prop} {d : DefRec} {g : List D → Kp → Out D}
    (hn : l.most = some n) (hn2 : n ≤ sizeLine) (hdf : d.params.defaults = []) (hr : Room k callerA)
    (F : ∀ (w : World) (mg : Str → Option Value) (fa : Addr) (h : Heap), YP w h → h.Ns mainGlobals mg → mg d.name = some (.ref fa) →
      ∃ K : PySem.W.Frag, K.In h ∧ fa = ga K d.name ∧ ∀ base : Heap, K.In base → base.Ns mainGlobals mg → Has ⟨l.prog, w, K, mg, base⟩ k d.name ["script"] g)
    (law : ∀ ns : List Int, ns.length ≤ n → g [scriptD ns] none = .ok (.bl true) none) :
    PySem.W.WalkO q loose XP YP l.row.toRowW d [] (fun f vs => PySem.call f vs) := by
  refine Att.attach_call hn hdf fun w s₀ s₁ mg mb fa o pm cd doc a vs ns G0 Y ho hd hcd hmg hobj hints hlen hg => ?_
  obtain ⟨K, KX, efa, hF⟩ := F w mg fa _ Y G0.T.g hmg
  subst efa
  refine callG (sp := spD ⟨K, mg⟩ 1 g) (m0 := fun b => ⟨l.prog, w, K, mg, b⟩) (fun _ => rfl) KX G0.T.g G0.T.b G0.T.builtins G0.T.nolimit hg hobj hints (Nat.le_trans hlen hn2) hr (fun base h1 h2 => let ⟨fd, z1, z2⟩ := (hF base h1 h2).ex; ⟨fd, z2, z1⟩) fun H hO hS => ⟨rfl, H, fun _ => False, [scriptD ns], none, Sub.rfl, .val (.lsf hS (by rw [List.length_map]; exact Nat.le_trans hlen hn2) (reps_ints ns)) .nil, fun a h => h, ?_⟩
  rw [law ns hlen]
  exact fun G' H' v _ _ _ r => r.bl_
end G

set_option Elab.async false
set_option linter.all false
set_option maxRecDepth 100000
/-! A def called by a value: rows[k](..). -/
namespace G
open PySem PySem.Spec PyProof.Rows L2 RZ GXS He GH
/-- the defs that may be meant -/
abbrev VTab := List (Str × (List D → Kp → Out D))
structure HasN (m : Mo) (k : Nat) (x : Str) (n : Nat) (g : List D → Kp → Out D) : Prop where
  ex : ∃ ps, ps.length = n ∧ Has m k x ps g
def TabOk (m : Mo) (k n : Nat) (T : VTab) : Prop := ∀ q ∈ T, HasN m k q.1 n q.2
def D.fnOf (T : VTab) : D → Option (List D → Kp → Out D)
  | .fn x => T.lookup x
  | _ => none
def eCallV (n : Nat) (T : VTab) (ff : M D) (fa : M (List D)) : M D := fun ρ κ => (ff ρ κ).bind fun d κ => match d.fnOf T with
  | some g => (fa ρ κ).bind (callK n g)
  | none => .bad
theorem lookup_mem {α : Type} {x : Str} {g : α} : ∀ {T : List (Str × α)}, T.lookup x = some g → (x, g) ∈ T
  | [], h => nomatch h
  | (y, g') :: T, h => by
    rw [List.lookup_cons] at h
    split at h
    · rename_i e
      have e' : x = y := by simpa using e
      cases h
      rw [e']
      exact List.mem_cons_self
    · exact List.mem_cons_of_mem _ (lookup_mem h)
section
variable {m : Mo} {X : Cx} {cs : Option Nat} {W : WX} {k j n : Nat}
theorem px_callV {T : VTab} {a b e : Expr} {es : List Expr} {p pos : Pos} {ff : M D} {fs : M (List D)} (hT : TabOk m k n T) (hm : InM m X) (hg : X.A.guards = some []) (hr : Room j X.A) (hkj : k ≤ j) (tk : Takes X W) (hf : PX X cs W (.Subscript a b p) ff)
    (ha : AX X cs W (e :: es) fs) (he : starEach (e :: es) X.env = (false, eval e X.env) :: starEach es X.env := by rfl) (hpl : (backTo pos (starEach es X.env)).any (·.1) = false := by rfl)
    (hcall : eval (.Call (.Subscript a b p) (e :: es) [] pos) X.env = (do
      let f ← eval (.Subscript a b p) X.env
      callWith pos f [] (backTo pos (starEach (e :: es) X.env)) (backToKw pos (keywordEach [] X.env))) := by rfl) :
    PX X cs W (.Call (.Subscript a b p) (e :: es) [] pos) (eCallV n T ff fs) := by
  obtain ⟨tf, pf, rf⟩ := hf
  obtain ⟨t, pt, rt⟩ := ha
  obtain ⟨a1, a2, a3, a4, a5⟩ := id hm
  have eC : Cx.C X = m.C := by rw [Cx.C, a3, a4]
  refine ⟨fun σ H Q => tf σ H fun v H1 => ∃ x g, v = .ref (ga m.K x) ∧ (x, g) ∈ T ∧ tCallS (spD m.C n g) (WE W) t σ H1 Q, ⟨fun pins s σ H Q I q => ?_⟩, ⟨fun σ ρ κ G H A Q ev k => rf.run σ ρ κ G H A _ ev (Res.mono (Res.bind k) ?_)⟩⟩
  · rw [hcall]
    refine wpAny_bind (thn (pf.run pins s σ H _ I q) fun u s1 ⟨v, H1, I1, rv, x, g, ev, hx, q1⟩ => ?_)
    subst ev
    have eu : u = .ref (ga m.K x) := rv
    subst eu
    obtain ⟨ps, hl, F⟩ := (hT _ hx).ex
    obtain ⟨fd, F1, hb⟩ := F.ex
    refine PySem.W.callWith_K (h₀ := X.base) I1.ok.mod.kin (by rw [a3]; exact F.kp) (thn (pt.run pos pins s1 σ H1 _ I1 q1) fun us s2 ⟨vs, H2, I2, r, q2⟩ => ⟨I2.kIn, ?_⟩) he hpl
    rw [← hl] at q2
    exact run_fng F1 hm hg (hr.mono hkj) hb tk I2 r q2
  · intro d G1 H1 s1 ⟨κ1, e1, k1⟩ v rv
    cases hd : d.fnOf T with
    | none => rw [hd] at k1; exact (show False from k1).elim
    | some g =>
      rw [hd] at k1
      cases d with
      | fn x =>
        have hv : ∃ a, v = .ref a ∧ (Cx.C X).mg x = some (.ref a) := by
          cases rv with
          | fn h => exact ⟨_, rfl, h⟩
        obtain ⟨ad, rfl, hmg⟩ := hv
        have hx := lookup_mem (show T.lookup x = some g from hd)
        obtain ⟨ps, _, F⟩ := (hT _ hx).ex
        have ea : ad = ga m.K x := by
          have z := F.mg
          rw [eC] at hmg
          exact Value.ref.inj (Option.some.inj (hmg.symm.trans z))
        subst ea
        refine ⟨x, g, rfl, hx, ?_⟩
        rw [← eC]
        exact (call_run rt).run σ ρ κ1 G1 H1 A Q e1 k1
      | _ => cases hd
end
end G

set_option Elab.async false
set_option linter.all false
set_option maxRecDepth 100000
set_option maxHeartbeats 1000000
/-! dict(xs) of a list of pairs whose keys are tuples of ints and texts. -/
namespace G
open PySem PySem.Spec PyProof.Rows L2 RZ GXS He GH
abbrev Ks := List L2.Key
abbrev KRow := Ks × Addr × Value
def mergeH : List KRow → List KRow → List KRow
  | acc, [] => acc
  | acc, q :: r => mergeH (storedH acc q.1 q.2.1 q.2.2) r
theorem storedH_len (acc : List KRow) (k : Ks) (a : Addr) (v : Value) : (storedH acc k a v).length ≤ acc.length + 1 := by
  unfold storedH
  split
  · simp
  · simp
theorem mergeH_len : ∀ (r acc : List KRow), (mergeH acc r).length ≤ acc.length + r.length
  | [], acc => by unfold mergeH; simp
  | q :: r, acc => by
    unfold mergeH
    have h1 := mergeH_len r (storedH acc q.1 q.2.1 q.2.2)
    have h2 := storedH_len acc q.1 q.2.1 q.2.2
    rw [List.length_cons]
    omega
section
variable {prog : Program} {w : World} {A : Around} {E : Value → Shared → Prop}
abbrev tkd (prog : Program) (w : World) : HeapKind prog w Ks := tupleKind (mixKind prog w)
theorem isT_at {h h' : Heap} {k : Ks} {a : Addr} (x : (tkd prog w).is h k a) (e : ∀ o, h.get? a = some o → h'.get? a = some o) : (tkd prog w).is h' k a := by
  obtain ⟨o, its, n, h1, h2⟩ := (show IsTupleKey (mixKind prog w) h k a from x)
  exact (show IsTupleKey (mixKind prog w) h' k a from ⟨o, its, n, e o h1, h2⟩)
theorem isT_ne {h : Heap} {k : Ks} {a d : Addr} {o : Obj} {es : Array DictEntry} {ep : Nat} (x : (tkd prog w).is h k a) (hd : h.get? d = some o) (he : o.data = .dict es ep) : a ≠ d := fun z => by
  obtain ⟨o', its, n, h1, h2, h3, _⟩ := (show IsTupleKey (mixKind prog w) h k a from x)
  rw [z, hd] at h1
  cases h1
  rw [he] at h3
  cases h3
theorem dictH_ext {h h' : Heap} {d : Addr} {xs : List KRow} (m : h.DictOfH (tkd prog w) d xs) {I : Addr} (hI : d ≠ I) (kI : ∀ x ∈ xs, x.2.1 ≠ I) (e : ∀ b o, b ≠ I → h.get? b = some o → h'.get? b = some o) : h'.DictOfH (tkd prog w) d xs := by
  obtain ⟨o, es, ep, h1, h2, h3, h4, h5, h6⟩ := m
  exact ⟨o, es, ep, e d o hI h1, h2, h3, h4, fun x hx => isT_at (h5 x hx) fun o' z => e _ o' (kI x hx) z, h6⟩
theorem stored_keys {acc : List KRow} {k : Ks} {a : Addr} {v : Value} {x : KRow} (h : x ∈ storedH acc k a v) : (∃ y ∈ acc, y.2.1 = x.2.1) ∨ x.2.1 = a := by
  unfold storedH at h
  split at h
  · obtain ⟨y, hy, rfl⟩ := List.mem_map.mp h
    refine .inl ⟨y, hy, ?_⟩
    unfold putAt
    split <;> rfl
  · rcases List.mem_append.mp h with h | h
    · exact .inl ⟨x, h, rfl⟩
    · have : x = (k, a, v) := by simpa using h
      exact .inr (by rw [this])
theorem upd_loopT {R : Result → Shared → Prop} {S I l : Addr} {items : Array Value} {res : Value} (hh : A.handled = none) (hu : A.units + 1 < cLine) (hlI : l ≠ I) (hSI : S ≠ I) (hSl : S ≠ l) :
    ∀ (rest : List KRow) (i : Nat) (acc : List KRow) (ix : Int) (t : Tok) (s : Shared), items.size = i + rest.length → acc.length + rest.length ≤ sizeLine →
      (∀ (j : Nat) (q : KRow), rest[j]? = some q → ∃ b : Addr, items[i + j]? = some (.ref b) ∧ b ≠ S ∧ b ≠ I ∧ q.2.1 ≠ S ∧ q.2.1 ≠ I ∧ IsTup s.heap b #[.ref q.2.1, q.2.2] ∧ (tkd prog w).is s.heap q.1 q.2.1) →
      (∀ x ∈ acc, x.2.1 ≠ I) → s.heap.IsListIter I l i → s.heap.IsList l items → s.heap.DictOfH (tkd prog w) S acc →
      (∀ h' tk, h'.DictOfH (tkd prog w) S (mergeH acc rest) → (∀ b o, b ≠ S → b ≠ I → s.heap.get? b = some o → h'.get? b = some o) → R (.ok (.ret res)) { s with heap := h', toks := tk }) →
      codeAny (model prog w) A (.builtin "dict.update.loop" ⟨[.ref S, .ref I, .int ix t, res], []⟩) R s
  | [], i, acc, ix, t, s, hsz, hln, ht, hk, hit, hl, hm, hR => by
    refine codeAny_builtin ud_entry ?_
    rw [Around.under_plainId ud_plain _]
    show wpAny _ A.in1 (pyNext (.ref I) >>= _) _ _ s
    refine wpAny_bind (wpAny_pyNext_list_end (A := A.in1) hh hit hl (by simp at hsz; simp; omega) fun h' he => ?_)
    show wpAny _ A.in1 (Builtin.Dict.addKeywords S [] >>= _) _ _ _
    refine wpAny_bind (wpAny_pure (wpAny_pure ?_))
    exact hR h' s.toks (dictH_ext hm hSI hk fun b o hb e => he b o hb e) fun b o _ hb e => he b o hb e
  | q :: rest, i, acc, ix, t, s, hsz, hln, ht, hk, hit, hl, hm, hR => by
    obtain ⟨b, hb, hbS, hbI, haS, haI, htup, hkey⟩ := ht 0 q rfl
    rw [List.length_cons] at hsz hln
    refine codeAny_builtin ud_entry ?_
    rw [Around.under_plainId ud_plain _]
    show wpAny _ A.in1 (pyNext (.ref I) >>= _) _ _ s
    refine wpAny_bind (wpAny_pyNext_list_item (x := .ref b) hit hl (by simpa using hb) fun h1 hit1 hs1 => ?_)
    have ht1 : IsTup h1 b #[.ref q.2.1, q.2.2] := htup.extBut hs1.extBut hbI
    have hl1 : h1.IsList l items := hl.extBut hs1.extBut hlI
    have hm1 : h1.DictOfH (tkd prog w) S acc := dictH_ext hm hSI hk fun c o hc e => hs1.extBut c o hc e
    have hk1 : (tkd prog w).is h1 q.1 q.2.1 := isT_at hkey fun o e => hs1.extBut _ o haI e
    obtain ⟨o, ho, hc, n, hd⟩ := id ht1
    show wpAny _ A.in1 (holding [Value.ref b] _ >>= _) _ _ _
    refine wpAny_bind (wpAny_holding ?_)
    refine wpAny_bind (wpAny_tryCatch ?_)
    unfold Builtin.Dict.pairItems
    refine wpAny_bind (wpAny_typeOf (T := "tuple") ⟨o, ho, hc⟩ ?_)
    rw [if_pos (by first | decide | rfl | simp)]
    refine wpAny_bind (wpAny_seqItems ho hd (wpAny_pure ?_))
    show wpAny _ A.in1 (holding [.ref q.2.1, q.2.2] (dictSet S (.ref q.2.1) q.2.2)) _ _ _
    refine wpAny_holding (wpAny_dictSet_heap (knd := tkd prog w) (k := q.1) (show A.units + 1 < cLine from hu) hk1 hm1 (fun h2 hm2 hs2 => ?_) (by omega))
    refine wpAny_pure ⟨plainId_quiet ud_plain _, upd_loopT (items := items) hh hu hlI hSI hSl rest (i + 1) (storedH acc q.1 q.2.1 q.2.2) (ix + 1) 0 _ (show items.size = i + 1 + rest.length by omega) ?_ (fun j q' e => ?_) (fun x hx => ?_) ?_ ?_ hm2 fun h' tk hd' k => ?_⟩
    · have z := storedH_len acc q.1 q.2.1 q.2.2
      omega
    · obtain ⟨b', hb', hbS', hbI', haS', haI', htup', hk'⟩ := ht (j + 1) q' (by simpa using e)
      refine ⟨b', ?_, hbS', hbI', haS', haI', (htup'.extBut hs1.extBut hbI').extBut hs2.extBut hbS', isT_at hk' fun o' e' => hs2.extBut _ o' haS' (hs1.extBut _ o' haI' e')⟩
      rw [show i + 1 + j = i + (j + 1) by omega]
      exact hb'
    · rcases stored_keys hx with ⟨y, hy, ey⟩ | ey
      · rw [← ey]; exact hk y hy
      · rw [ey]; exact haI
    · exact hit1.at fun o' e => hs2.extBut I o' (Ne.symm hSI) e
    · exact hl1.extBut hs2.extBut (Ne.symm hSl)
    · exact hR h' tk hd' fun c oc h3 h4 e => k c oc h3 h4 (hs2.extBut c oc h3 (hs1.extBut c oc h4 e))
theorem call_dict_T {s : Shared} {l : Addr} {ol : Obj} {items : Array Value} {n : Nat} {prs : List KRow} {Q : Value → Shared → Prop} (hh : A.handled = none) (hu : A.units + 2 < cLine) (hl : s.heap.get? l = some ol) (hc : ol.cls = .type "list") (hd : ol.dict = none)
    (hdat : ol.data = .seq items n) (hsz : items.size = prs.length) (hln : prs.length ≤ sizeLine)
    (ht : ∀ (j : Nat) (q : KRow), prs[j]? = some q → ∃ b : Addr, items[j]? = some (.ref b) ∧ IsTup s.heap b #[.ref q.2.1, q.2.2] ∧ (tkd prog w).is s.heap q.1 q.2.1)
    (h : ∀ h' tk, h'.DictOfH (tkd prog w) s.heap.objs.size (mergeH [] prs) → (∀ b o, s.heap.get? b = some o → h'.get? b = some o) → Q (.ref s.heap.objs.size) { s with heap := h', toks := tk }) :
    wpAny (model prog w) A (call (.type "dict") [.ref l]) Q E s := by
  refine callType_codes (Q₁ := fun obj s₁ => obj = .ref s.heap.objs.size ∧ s₁ = { s with heap := s.heap.push { cls := .type "dict", data := .dict #[] } }) PySem.F.kt_called_dict (PySem.F.kt_typeCall_dict_1 _) PySem.F.entry_dict_init (kt_code_dict_new _ ⟨rfl, rfl⟩) ?_
  rintro obj s₁ ⟨rfl, rfl⟩
  have hnew : (s.heap.push { cls := .type "dict", data := .dict #[] }).DictOfH (tkd prog w) s.heap.objs.size [] := Heap.DictOfH.new s.heap
  have k0 : ∀ b o, s.heap.get? b = some o → (s.heap.push { cls := .type "dict", data := .dict #[] }).get? b = some o := fun b o e => Heap.get?_push_of_some _ e
  refine ⟨hnew.typeIs, PySem.F.args_dict_init_2 _ _, ?_⟩
  unfold Builtin.«dict.__init__»
  refine wpAny_bind ?_
  unfold Builtin.Dict.selfAndRest
  refine wpAny_bind (wpAny_notOrdered_dict hnew.typeIs ?_)
  show wpAny _ _ (pure (s.heap.objs.size, [Value.ref l])) _ _ _
  refine wpAny_pure ?_
  show wpAny _ _ (Builtin.Dict.updateFrom "dict.__init__" s.heap.objs.size (.ref l) [] .none) _ _ _
  unfold Builtin.Dict.updateFrom
  refine wpAny_bind (wpAny_typeOf (T := "list") ⟨ol, k0 _ _ hl, hc⟩ ?_)
  rw [if_pos (by first | decide | rfl | simp)]
  refine wpAny_bind (miss_list (k0 _ _ hl) hc hdat hd hh fun h1 tk1 hk1 => ?_)
  rw [if_pos (show (none : Option Value).isNone = true from rfl)]
  refine wpAny_bind (wpAny_rule ?_)
  have hl1 : h1.IsList l items := ⟨ol, hk1 _ _ (k0 _ _ hl), hc, n, hdat⟩
  have hS0 : (s.heap.push ({ cls := .type "dict", data := .dict #[] } : Obj)).get? s.heap.objs.size = some { cls := .type "dict", data := .dict #[] } := Heap.get?_push_size _ rfl
  have hS1 : s.heap.objs.size < h1.objs.size := Heap.lt_size (hk1 _ _ hS0)
  refine wpAny_bind (wpAny_pyIter_list hl1 ?_)
  have k2 : ∀ b o, h1.get? b = some o → (h1.push { cls := .type "list_iterator", data := .fields #[.ref l, .int 0 0] }).get? b = some o := fun b o e => Heap.get?_push_of_some _ e
  have hlt : l < s.heap.objs.size := Heap.lt_size hl
  have key := upd_loopT (prog := prog) (w := w) (A := A.in1) (R := wants (fun r s₂ => r = .none ∧ Q (.ref s.heap.objs.size) s₂) E) (S := s.heap.objs.size) (I := h1.objs.size) (l := l) (items := items) (res := Value.none) hh (by show A.units + 1 + 1 < cLine; omega)
    (Nat.ne_of_lt (Nat.lt_trans hlt hS1)) (Nat.ne_of_lt hS1) (Nat.ne_of_gt hlt) prs 0 [] 0 0
    { s with heap := h1.push { cls := .type "list_iterator", data := .fields #[.ref l, .int 0 0] }, toks := tk1 } (by rw [hsz, Nat.zero_add]) (by rw [List.length_nil, Nat.zero_add]; exact hln)
    (fun j q e => by
      obtain ⟨b, e1, e2, e3⟩ := ht j q e
      have hb : b < s.heap.objs.size := e2.lt
      have ha : q.2.1 < s.heap.objs.size := by
        obtain ⟨o, its, m, z, _⟩ := (show IsTupleKey (mixKind prog w) s.heap q.1 q.2.1 from e3)
        exact Heap.lt_size z
      exact ⟨b, by rw [Nat.zero_add]; exact e1, Nat.ne_of_lt hb, Nat.ne_of_lt (Nat.lt_trans hb hS1), Nat.ne_of_lt ha, Nat.ne_of_lt (Nat.lt_trans ha hS1), e2.keeps fun c o z => k2 _ _ (hk1 _ _ (k0 _ _ z)), isT_at e3 fun o z => k2 _ _ (hk1 _ _ (k0 _ _ z))⟩)
    (fun x hx => nomatch hx) ⟨_, Heap.get?_push_size _ rfl, rfl, rfl⟩ (hl1.at fun o e => k2 _ _ e) (dictH_ext (I := h1.objs.size) hnew (Nat.ne_of_lt hS1) (fun x hx => nomatch hx) fun b o _ e => k2 _ _ (hk1 _ _ e))
    (fun h' tk hd' k => ⟨rfl, h h' tk hd' fun b o e => k b o (Nat.ne_of_lt (Heap.lt_size e)) (Nat.ne_of_lt (Nat.lt_trans (Heap.lt_size e) hS1)) (k2 _ _ (hk1 _ _ (k0 _ _ e)))⟩)
  first
    | exact wpAny_pure ⟨plainId_quiet ud_plain _, key⟩
    | exact wpAny_bind (wpAny_pure (wpAny_pure ⟨plainId_quiet ud_plain _, key⟩))
end
/-! ### what lies, what is told -/
abbrev KA := Ks × Addr
def hasK (l : List Ks) (k : Ks) : Bool := l.any fun x => decide (x = k)
def mergeA : List KA → List KA → List KA
  | acc, [] => acc
  | acc, q :: r => mergeA (if hasK (acc.map (·.1)) q.1 then acc else acc ++ [q]) r
def ka (x : KRow) : KA := (x.1, x.2.1)
theorem atKey_some (acc : List KRow) (k : Ks) : (atKey acc k).isSome = hasK ((acc.map ka).map (·.1)) k := by
  unfold atKey hasK
  rw [Option.isSome_map]
  induction acc with
  | nil => rfl
  | cons x t ih =>
    rw [List.find?_cons, List.map_cons, List.map_cons, List.any_cons]
    by_cases h : x.1 = k
    · simp [h, ka]
    · rw [← ih]
      simp [h, ka]
theorem stored_ka (acc : List KRow) (k : Ks) (a : Addr) (v : Value) : (storedH acc k a v).map ka = if hasK ((acc.map ka).map (·.1)) k then acc.map ka else acc.map ka ++ [(k, a)] := by
  unfold storedH
  rw [atKey_some]
  split
  · rw [List.map_map]
    apply List.map_congr_left
    intro x hx
    show ka (putAt k v x) = ka x
    unfold putAt ka
    split <;> rfl
  · rw [List.map_append]
    rfl
theorem merge_ka : ∀ (r acc : List KRow), (mergeH acc r).map ka = mergeA (acc.map ka) (r.map ka)
  | [], acc => by
    unfold mergeH mergeA
    rfl
  | q :: r, acc => by
    unfold mergeH
    rw [merge_ka r, stored_ka, List.map_cons]
    show _ = mergeA (acc.map ka) (ka q :: r.map ka)
    conv => rhs; unfold mergeA
    rfl
def addKs : List Ks → List Ks → List Ks
  | acc, [] => acc
  | acc, q :: r => addKs (if hasK acc q then acc else acc ++ [q]) r
theorem mergeA_keys : ∀ (r acc : List KA), (mergeA acc r).map (·.1) = addKs (acc.map (·.1)) (r.map (·.1))
  | [], acc => by unfold mergeA addKs; rfl
  | q :: r, acc => by
    unfold mergeA
    rw [mergeA_keys r, List.map_cons]
    conv => rhs; unfold addKs
    congr 1
    split
    · rfl
    · rw [List.map_append]; rfl
theorem mergeA_mem {x : KA} : ∀ (r acc : List KA), x ∈ mergeA acc r → x ∈ acc ∨ x ∈ r
  | [], acc, h => by unfold mergeA at h; exact .inl h
  | q :: r, acc, h => by
    unfold mergeA at h
    rcases mergeA_mem r _ h with h | h
    · split at h
      · exact .inl h
      · rcases List.mem_append.mp h with h | h
        · exact .inl h
        · exact .inr (by rw [List.mem_singleton.mp h]; exact List.mem_cons_self)
    · exact .inr (List.mem_cons_of_mem _ h)
theorem mergeA_len : ∀ (r acc : List KA), (mergeA acc r).length ≤ acc.length + r.length
  | [], acc => by unfold mergeA; simp
  | q :: r, acc => by
    unfold mergeA
    have h1 := mergeA_len r (if hasK (acc.map (·.1)) q.1 then acc else acc ++ [q])
    have h2 : (if hasK (acc.map (·.1)) q.1 then acc else acc ++ [q]).length ≤ acc.length + 1 := by
      split
      · omega
      · rw [List.length_append]; simp
    rw [List.length_cons]
    omega
section
variable {X : Cx}
/-- p: a pair of a key that is a tuple, and a value -/
def PairK (K : PySem.W.Frag) (H : Hp) (p : Addr) (q : KA × V) : Prop := SqT K H p [.ref q.1.2, q.2] ∧ SqT K H q.1.2 (q.1.1.map L2.kV)
theorem rows_of {pins : List (Addr × Obj)} {σ : St} {H : Hp} {s : Shared} (I : Inv X pins σ H s) : ∀ {ps : List Addr} {rows : List (KA × V)}, Paired (PairK X.K H) ps rows →
    ∃ prs : List KRow, prs.map ka = rows.map (·.1) ∧ prs.length = ps.length ∧ ∀ (j : Nat) (q : KRow), prs[j]? = some q → ∃ b : Addr, ps[j]? = some b ∧ IsTup s.heap b #[.ref q.2.1, q.2.2] ∧ (tkd X.prog X.w).is s.heap q.1 q.2.1
  | _, _, .nil => ⟨[], rfl, rfl, fun j q e => by simp at e⟩
  | _, _, .cons (a := p) (b := kv) h t => by
    obtain ⟨prs, r, hl, hp⟩ := rows_of I t
    obtain ⟨its, rv, ht, _⟩ := I.tuple h.1
    obtain ⟨u, y, ei, ru, ry⟩ := vals2 rv
    subst ei
    obtain rfl : u = .ref kv.1.2 := ru
    obtain ⟨its', rv', ⟨o', ho', hc', n', hd'⟩, _⟩ := I.tuple h.2
    refine ⟨(kv.1.1, kv.1.2, y) :: prs, by rw [List.map_cons, List.map_cons, r]; rfl, by rw [List.length_cons, List.length_cons, hl], fun j q e => ?_⟩
    cases j with
    | zero =>
      have e' : (kv.1.1, kv.1.2, y) = q := Option.some.inj e
      subst e'
      exact ⟨p, rfl, ht, (show IsTupleKey (mixKind X.prog X.w) s.heap kv.1.1 kv.1.2 from ⟨o', its'.toArray, n', ho', hc', hd', by simpa using items_are rv'⟩)⟩
    | succ j =>
      obtain ⟨b, e1, e2, e3⟩ := hp j q (by simpa using e)
      exact ⟨b, by simpa using e1, e2, e3⟩
theorem call_dictT (hcalm : X.calm = true) (hu : X.A.units + 2 < cLine) : CallR X (.type "dict") (fun xs H Q => ∃ (a : Addr) (ps : List Addr) (rows : List (KA × V)), xs = [.ref a] ∧ SqL X.K H a (ps.map V.ref) ∧ Paired (PairK X.K H) ps rows ∧
    ∀ p, H p = none → Q (.ref p) (upd H p (dctO p ((mergeA [] (rows.map (·.1))).map (·.2))))) := by
  intro pins s σ H xs us Q I r q
  obtain ⟨a, ps, rows, ex, hq, hp, q⟩ := q
  subst ex
  obtain ⟨u, eu, rx⟩ := vals1 r
  subst eu
  cases rx
  obtain ⟨its, rv, pl, hz⟩ := I.list hq
  have ei := refs_at rv
  subst ei
  rw [List.length_map] at hz
  obtain ⟨prs, rel, hl, hpr⟩ := rows_of I hp
  obtain ⟨o, n, ho, hc, hd, hdat⟩ := pl
  refine call_dict_T (prs := prs) (I.ok.hd hcalm) hu ho hc hd hdat (by simp [hl]) (by rw [hl]; exact hz) (fun j q' e => ?_) fun h' tk hd' k => ?_
  · obtain ⟨b, e1, e2, e3⟩ := hpr j q' e
    exact ⟨b, by simp [e1], e2, e3⟩
  · have hm : (s.heap.objs.size == sysModules) = false := beq_eq_false_iff_ne.mpr (Nat.ne_of_gt I.big)
    have ek : (mergeH [] prs).map ka = mergeA [] (rows.map (·.1)) := by rw [merge_ka, rel]; rfl
    have es' : ((mergeA [] (rows.map (·.1))).map (·.2)) = (mergeH [] prs).map (fun x => x.2.1) := by rw [← ek, List.map_map]; rfl
    have hlen : (mergeH [] prs).length ≤ sizeLine := by
      refine Nat.le_trans (mergeH_len prs []) ?_
      rw [List.length_nil, Nat.zero_add, hl]
      exact hz
    refine ⟨.ref s.heap.objs.size, upd H s.heap.objs.size (dctO s.heap.objs.size ((mergeA [] (rows.map (·.1))).map (·.2))), I.laid (t' := tk) k (Nat.le_refl _) ?_, rfl, q _ (I.hok.fresh (Nat.le_refl _))⟩
    obtain ⟨o2, es2, ep2, h1, h2, h3, h4, h5, h6⟩ := hd'
    have hk2 : es2.toList.map (·.key) = ((mergeA [] (rows.map (·.1))).map (·.2)).map Value.ref := by
      rw [h4, es', List.map_map, List.map_map]; rfl
    exact (show ObjOk X.prog X.w _ h' _ (dctO _ _) from ⟨⟨hm, by rw [es', List.length_map]; exact hlen, o2, es2, ep2, h1, h2, h3, hk2⟩, ⟨o2, h1⟩, fun g1 g2 ⟨z1, z2, oo, ee, pp, w1, w2, w3, w4⟩ kk => ⟨z1, z2, oo, ee, pp, kk _ w1, w2, w3, w4⟩⟩)
end
/-! ### on data -/
def D.kd : D → Option L2.Key
  | .int i => some (.inl i)
  | .str x => some (.inr x)
  | _ => none
def kdOf : L2.Key → D
  | .inl i => .int i
  | .inr x => .str x
def D.kds : List D → Option Ks
  | [] => some []
  | d :: r => match d.kd, D.kds r with
    | some k, some ks => some (k :: ks)
    | _, _ => none
def pairKs : List D → Option (List Ks)
  | [] => some []
  | d :: r => match d with
    | .tup [.tup k, _] => match D.kds k, pairKs r with
      | some a, some b => some (a :: b)
      | _, _ => none
    | _ => none
def dDictOf : List D → Option D
  | [.lst xs] => (pairKs xs).map fun ks => .dct ((addKs [] ks).map fun k => .tup (k.map kdOf))
  | _ => none
theorem kds_eq : ∀ {ds : List D} {ks : Ks}, D.kds ds = some ks → ds = ks.map kdOf
  | [], ks, h => by cases h; rfl
  | d :: r, ks, h => by
    unfold D.kds at h
    split at h
    · rename_i k ks' h1 h2
      cases h
      rw [List.map_cons, ← kds_eq h2]
      congr 1
      cases d <;> cases h1 <;> rfl
    · cases h
theorem reps_kd {C : KM} {G : Hp} : ∀ {ks : Ks} {vs : List V}, Reps C G vs (ks.map kdOf) → vs = ks.map L2.kV
  | [], _, h => by cases h; rfl
  | k :: ks, _, h => by
    cases h with
    | cons h t =>
      rw [List.map_cons, ← reps_kd t]
      congr 1
      cases k with
      | inl i => exact h.int_
      | inr x => exact h.str_
theorem rows_rep {C : KM} {G : Hp} : ∀ {ds : List D} {vs : List V} {kss : List Ks}, Reps C G vs ds → pairKs ds = some kss →
    ∃ (ps : List Addr) (rows : List (KA × V)), vs = ps.map V.ref ∧ Paired (PairK C.K G) ps rows ∧ (rows.map (·.1)).map (·.1) = kss ∧ ∀ x ∈ rows.map (·.1), Rep C G (.ref x.2) (.tup (x.1.map kdOf))
  | [], _, kss, h, e => by cases h; cases e; exact ⟨[], [], rfl, .nil, rfl, fun x hx => nomatch hx⟩
  | d :: ds, _, kss, h, e => by
    cases h with
    | cons h t =>
      unfold pairKs at e
      split at e
      · rename_i k v
        split at e
        · rename_i a b h1 h2
          cases e
          obtain ⟨ps, rows, e1, e2, e3, e4⟩ := rows_rep t h2
          obtain ⟨p, xs, rfl, hp, _, rp⟩ := h.tup_
          obtain ⟨u, w, rfl, ru, rw'⟩ := reps2 rp
          have ru' := ru
          obtain ⟨c, ys, rfl, hc, _, rc⟩ := ru.tup_
          have ek := kds_eq h1
          rw [ek] at rc ru'
          have ey := reps_kd rc
          subst ey
          refine ⟨p :: ps, ((a, c), w) :: rows, by rw [e1]; rfl, .cons ⟨hp, hc⟩ e2, by rw [List.map_cons, List.map_cons, e3], fun x hx => ?_⟩
          rw [List.map_cons] at hx
          rcases List.mem_cons.mp hx with hx | hx
          · subst hx; exact ru'
          · exact e4 x hx
        · cases e
      · cases e
theorem reps_ka {C : KM} {G : Hp} : ∀ (l : List KA), (∀ x ∈ l, Rep C G (.ref x.2) (.tup (x.1.map kdOf))) → Reps C G ((l.map (·.2)).map V.ref) ((l.map (·.1)).map fun k => .tup (k.map kdOf))
  | [], _ => .nil
  | x :: l, h => .cons (h x List.mem_cons_self) (reps_ka l fun y hy => h y (List.mem_cons_of_mem _ hy))
theorem PairK.mono {K : PySem.W.Frag} {G H : Hp} (s : Sub G H) {p : Addr} {q : KA × V} (h : PairK K G p q) : PairK K H p q := ⟨s.sqT h.1, s.sqT h.2⟩
theorem sd_dict {C : KM} : SndL C (fun xs H Q => ∃ (a : Addr) (ps : List Addr) (rows : List (KA × V)), xs = [.ref a] ∧ SqL C.K H a (ps.map V.ref) ∧ Paired (PairK C.K H) ps rows ∧
    ∀ p, H p = none → Q (.ref p) (upd H p (dctO p ((mergeA [] (rows.map (·.1))).map (·.2))))) dDictOf := by
  intro G H vs ds z Q s rs hz k
  unfold dDictOf at hz
  split at hz
  · obtain ⟨v, rfl, r⟩ := reps1 rs
    rename_i ds'
    cases hk : pairKs ds' with
    | none => rw [hk] at hz; cases hz
    | some kss =>
      rw [hk] at hz
      have hz' := (Option.some.inj hz).symm
      subst hz'
      obtain ⟨a, xs, rfl, h, zx, r⟩ := r.lst_
      obtain ⟨ps, rows, rfl, e2, e3, e4⟩ := rows_rep r hk
      refine ⟨a, ps, rows, rfl, sq_of s h, L2.Paired.mapP e2 (fun _ _ q => q.mono s), fun p hp => k _ _ _ (Al.new s hp) ?_⟩
      refine .dct upd_same ?_
      have e5 : addKs [] kss = (mergeA [] (rows.map (·.1))).map (·.1) := by rw [mergeA_keys, e3]; rfl
      rw [e5]
      refine (reps_ka _ fun x hx => ?_).mono (Sub.new (free_of s hp))
      rcases mergeA_mem _ _ hx with hx | hx
      · exact nomatch hx
      · exact e4 x hx
  · cases hz
end G

set_option Elab.async false
set_option linter.all false
set_option maxRecDepth 100000
/-! Reckoning on data: what statements give, by simp; walks by an invariant. -/
namespace G
open PySem PySem.Spec PyProof.Rows L2 RZ GXS He GH
section
variable {cs : Option Nat} {α : Type} {fr : α → Bool} {f : M α} {s : Ss} {b b1 b2 : Ss → Fl}
@[simp] theorem eR_nil : eR cs [] fr f s = f s.ρ (s.cell cs []) := rfl
@[simp] theorem bSeq_d : bSeq b1 b2 s = (match b1 s with
  | .nx s' => b2 s'
  | o => o) := rfl
@[simp] theorem bNext_d : bNext s = .nx s := rfl
@[simp] theorem put_none {κ : Kp} : s.put none κ = s := by unfold Ss.put; cases κ <;> rfl
@[simp] theorem put_nil {c : Nat} : s.put (some c) none = s := rfl
@[simp] theorem cell_none : s.cell none [] = none := rfl
@[simp] theorem eVar_d {i : Nat} {ρ : Sd} {κ : Kp} : eVar i ρ κ = (match ρ[i]? with
  | some (some d) => .ok d κ
  | _ => .bad) := rfl
@[simp] theorem eC_d {d : D} {ρ : Sd} {κ : Kp} : eC d ρ κ = .ok d κ := rfl
@[simp] theorem mTrue_d {ρ : Sd} {κ : Kp} : mTrue ρ κ = .ok true κ := rfl
@[simp] theorem eUn_d {g : D → Option D} {fa : M D} {ρ : Sd} {κ : Kp} : eUn g fa ρ κ = (fa ρ κ).bind fun x κ => ofO (g x) κ := rfl
@[simp] theorem eBin_d {g : D → D → Option D} {fa fb : M D} {ρ : Sd} {κ : Kp} : eBin g fa fb ρ κ = (fa ρ κ).bind fun x κ => (fb ρ κ).bind fun y κ => ofO (g x y) κ := rfl
@[simp] theorem aNil_d {ρ : Sd} {κ : Kp} : aNil ρ κ = .ok [] κ := rfl
@[simp] theorem aCons_d {fa : M D} {fs : M (List D)} {ρ : Sd} {κ : Kp} : aCons fa fs ρ κ = (fa ρ κ).bind fun x κ => (fs ρ κ).bind fun xs κ => .ok (x :: xs) κ := rfl
@[simp] theorem aCel_d {fs : M (List D)} {ρ : Sd} {ds : List D} : aCel fs ρ (some ds) = (fs ρ (some ds)).bind fun xs κ => .ok (.cel :: xs) κ := rfl
@[simp] theorem eArgs_d {g : List D → Option D} {fa : M (List D)} {ρ : Sd} {κ : Kp} : eArgs g fa ρ κ = (fa ρ κ).bind fun xs κ => if noCel xs = true then ofO (g xs) κ else .bad := rfl
@[simp] theorem iArgs_d {g : List D → Option (List D)} {fa : M (List D)} {ρ : Sd} {κ : Kp} : iArgs g fa ρ κ = (fa ρ κ).bind fun xs κ => if noCel xs = true then ofO (g xs) κ else .bad := rfl
@[simp] theorem iOf_d {fa : M D} {ρ : Sd} {κ : Kp} : iOf fa ρ κ = (fa ρ κ).bind fun x κ => ofO x.items κ := rfl
@[simp] theorem eIf_d {ft : M Bool} {fa fb : M D} {ρ : Sd} {κ : Kp} : eIf ft fa fb ρ κ = (ft ρ κ).bind fun b κ => if b = true then fa ρ κ else fb ρ κ := rfl
@[simp] theorem tBl_d {fa : M D} {ρ : Sd} {κ : Kp} : tBl fa ρ κ = (fa ρ κ).bind fun x κ => ofO (dBool x) κ := rfl
@[simp] theorem tTru_d {fa : M D} {ρ : Sd} {κ : Kp} : tTru fa ρ κ = (fa ρ κ).bind fun x κ => ofO (dTru x) κ := rfl
@[simp] theorem tNot_d {fa : M Bool} {ρ : Sd} {κ : Kp} : G.tNot fa ρ κ = (fa ρ κ).bind fun b κ => .ok (!b) κ := rfl
@[simp] theorem tAnd_d {fa fb : M Bool} {ρ : Sd} {κ : Kp} : G.tAnd fa fb ρ κ = (fa ρ κ).bind fun b κ => if b = true then fb ρ κ else .ok false κ := rfl
@[simp] theorem tOr_d {fa fb : M Bool} {ρ : Sd} {κ : Kp} : G.tOr fa fb ρ κ = (fa ρ κ).bind fun b κ => if b = true then .ok true κ else fb ρ κ := rfl
@[simp] theorem eLst_d {f : M (List D)} {ρ : Sd} {κ : Kp} : eLst f ρ κ = (f ρ κ).bind fun ds κ => .ok (.lst ds) κ := rfl
@[simp] theorem aFree_d {f : M (List D)} {ρ : Sd} {κ : Kp} : aFree f ρ κ = (f ρ κ).bind fun ds κ => if noCel ds = true ∧ ds.length ≤ sizeLine then .ok ds κ else .bad := rfl
@[simp] theorem eSl_d {fa : M D} {fl fh : M (Option Int)} {ρ : Sd} {κ : Kp} : eSl fa fl fh ρ κ = (fa ρ κ).bind fun x κ => (fl ρ κ).bind fun l κ => (fh ρ κ).bind fun h κ => ofO (dSl x l h) κ := rfl
@[simp] theorem pNone_d {ρ : Sd} {κ : Kp} : pNone ρ κ = .ok none κ := rfl
@[simp] theorem pSome_d {fa : M D} {ρ : Sd} {κ : Kp} : pSome fa ρ κ = (fa ρ κ).bind fun x κ => (ofO (dInt x) κ).bind fun i κ => .ok (some i) κ := rfl
@[simp] theorem eCall_d {n : Nat} {g : List D → Kp → Out D} {fa : M (List D)} {ρ : Sd} {κ : Kp} : eCall n g fa ρ κ = (fa ρ κ).bind (callK n g) := rfl
@[simp] theorem dInt_i {i : Int} : dInt (.int i) = some i := rfl
@[simp] theorem dBool_b {b : Bool} : dBool (.bl b) = some b := rfl
@[simp] theorem dTru_b {b : Bool} : dTru (.bl b) = some b := rfl
@[simp] theorem dTru_l {xs : List D} : dTru (.lst xs) = some (!xs.isEmpty) := rfl
@[simp] theorem dTru_t {xs : List D} : dTru (.tup xs) = some (!xs.isEmpty) := rfl
@[simp] theorem dAdd_i {i j : Int} : dAdd (.int i) (.int j) = some (.int (i + j)) := rfl
@[simp] theorem dSub_i {i j : Int} : dSub (.int i) (.int j) = some (.int (i - j)) := rfl
@[simp] theorem dNeg_i {i : Int} : dNeg (.int i) = some (.int (-i)) := rfl
@[simp] theorem dCmp_i {p : Int → Int → Bool} {i j : Int} : dCmp p (.int i) (.int j) = some (.bl (p i j)) := rfl
@[simp] theorem dMod_i {i j : Int} (h : j ≠ 0) : dMod (.int i) (.int j) = some (.int (i.fmod j)) := if_pos h
@[simp] theorem dIntOf_i {i : Int} : dIntOf [.int i] = some (.int i) := rfl
@[simp] theorem dAbs_i {i : Int} : dAbs [.int i] = some (.int (if i < 0 then -i else i)) := rfl
@[simp] theorem noCel_nil : noCel [] = true := rfl
@[simp] theorem noCel_int {i : Int} {r : List D} : noCel (.int i :: r) = noCel r := rfl
@[simp] theorem noCel_bl {i : Bool} {r : List D} : noCel (.bl i :: r) = noCel r := rfl
@[simp] theorem noCel_str {i : Str} {r : List D} : noCel (.str i :: r) = noCel r := rfl
@[simp] theorem noCel_lst {i : List D} {r : List D} : noCel (.lst i :: r) = noCel r := rfl
@[simp] theorem noCel_lsf {i : List D} {r : List D} : noCel (.lsf i :: r) = noCel r := rfl
@[simp] theorem noCel_tup {i : List D} {r : List D} : noCel (.tup i :: r) = noCel r := rfl
@[simp] theorem noCel_non {r : List D} : noCel (.non :: r) = noCel r := rfl
@[simp] theorem noCel_fn {i : Str} {r : List D} : noCel (.fn i :: r) = noCel r := rfl
@[simp] theorem noCel_cel {r : List D} : noCel (.cel :: r) = false := rfl
@[simp] theorem items_lst {xs : List D} : (D.lst xs).items = some xs := rfl
@[simp] theorem items_tup {xs : List D} : (D.tup xs).items = some xs := rfl
@[simp] theorem bAsg_d {R vs : List Nat} {tg : Tg} {f : M D} : bAsg cs R vs tg f s = (eR cs R D.free f s).fl cs s fun d s => match tg d s.ρ with
  | some ρ' => .nx (s.asg vs ρ')
  | none => .bad := rfl
@[simp] theorem tName_d {i : Nat} {d : D} {ρ : Sd} : tName i d ρ = some (ρ.set i (some d)) := rfl
@[simp] theorem bRet_d {R : List Nat} {f : M D} : bRet cs R f s = (eR cs R D.free f s).fl cs s fun d s => .rt d s := rfl
@[simp] theorem bExpr_d {R : List Nat} {f : M D} : bExpr cs R f s = (eR cs R (fun _ => true) f s).fl cs s fun _ s => .nx s := rfl
@[simp] theorem bIf_d {R : List Nat} {f : M Bool} : bIf cs R f b1 b2 s = (eR cs R (fun _ => true) f s).fl cs s fun c s => if c = true then b1 s else b2 s := rfl
@[simp] theorem bFix_d {i : Nat} : bFix i b s = b (s.fix i) := rfl
@[simp] theorem bFor_d {vs : List Nat} {tg : Tg} {fi : M (List D)} : bFor cs vs tg fi b s = (eR cs [] (fun _ => true) fi s).fl cs s fun ds s => forGo vs tg b ds s := rfl
@[simp] theorem bApp_d {R : List Nat} {i : Nat} {f : M D} : bApp cs R i f s = (match s.lst i with
  | none => .bad
  | some _ => (eR cs R D.free f s).fl cs s fun d s => match s.lst i with
    | some ds => if ds.length < sizeLine then .nx (s.wr i (ds ++ [d])) else .bad
    | none => .bad) := rfl
@[simp] theorem bSet_d {R R2 : List Nat} {i : Nat} {fk fe : M D} : bSet cs R R2 i fk fe s = ((eR cs R D.free fe s).fl cs s fun d s => match s.lst i with
  | none => .bad
  | some _ => (eR cs R2 D.free fk s).fl cs s fun k s => match k, s.lst i with
    | .int k, some ds => (match ixN ds.length k with
      | some j => .nx (s.wr i (ds.set j d))
      | none => .bad)
    | _, _ => .bad) := rfl
@[simp] theorem bOwn_d {R : List Nat} {i : Nat} {f : M (List D)} : bOwn cs R i f s = (eR cs R D.frees f s).fl cs s fun ds s => if decide (i < s.ρ.length) && (csOk cs i || noOwn s i) then .nx (s.own i ds) else .bad := rfl
@[simp] theorem bPar_d {i j : Nat} {f : M (List D)} : bPar cs i j f s = (eR cs [] (fun _ => true) f s).fl cs s fun ds s => (match ds with
  | [x, y] => if (!x.isCel && !y.isCel) = true then .nx ((s.asg [i] (s.ρ.set i (some x))).asg [j] ((s.ρ.set i (some x)).set j (some y))) else .bad
  | _ => .bad) := rfl
@[simp] theorem bRaise_d {R : List Nat} {f : M Exn} : bRaise cs R f s = (eR cs R Exn.free f s).fl cs s fun x s => .er x s := rfl
end
theorem dMul_r {i j : Int} (h : -18446744073709551616 < j ∧ j < 18446744073709551616) : dMul (.int i) (.int j) = some (.int (i * j)) := by
  have e : mulOk i j = true := by
    unfold mulOk
    exact Bool.or_eq_true_iff.mpr (.inl (decide_eq_true (Or.inr (by constructor <;> omega))))
  show (if mulOk i j = true then some (D.int (i * j)) else none) = _
  rw [if_pos e]
theorem dMul_l {i j : Int} (h : -18446744073709551616 < i ∧ i < 18446744073709551616) : dMul (.int i) (.int j) = some (.int (i * j)) := by
  have e : mulOk i j = true := by
    unfold mulOk
    exact Bool.or_eq_true_iff.mpr (.inl (decide_eq_true (Or.inl (by constructor <;> omega))))
  show (if mulOk i j = true then some (D.int (i * j)) else none) = _
  rw [if_pos e]
theorem dDiv_i {i j : Int} (h : divOk j = true) : dDiv (.int i) (.int j) = some (.int (i.fdiv j)) := if_pos h
@[simp] theorem dLen_l {xs : List D} : dLen [.lst xs] = some (.int xs.length) := rfl
@[simp] theorem dLen_t {xs : List D} : dLen [.tup xs] = some (.int xs.length) := rfl
theorem dRange_i {n : Int} (h : -(2 ^ 62) ≤ n ∧ n < 2 ^ 62) : dRange1 [.int n] = some (rangeD 0 n.toNat) := if_pos h
theorem range_at {lo : Int} {n j : Nat} {d : D} (h : (rangeD lo n)[j]? = some d) : d = .int (lo + (j : Nat)) ∧ j < n := by
  unfold rangeD at h
  rw [List.getElem?_map] at h
  obtain ⟨k, h1, h2⟩ := Option.map_eq_some_iff.mp h
  obtain ⟨h3, h4⟩ := List.getElem?_eq_some_iff.mp h1
  rw [List.getElem_range] at h4
  subst h4
  rw [List.length_range] at h3
  exact ⟨h2.symm, h3⟩
theorem dIx_lst {xs : List D} {i : Int} {d : D} (h0 : 0 ≤ i) (h : xs[i.toNat]? = some d) : dIx (.lst xs) (.int i) = some d := by
  have hl := (List.getElem?_eq_some_iff.mp h).1
  show atI xs i = some d
  unfold atI ixN
  rw [if_pos h0, if_pos (by omega)]
  exact h
theorem dIx_tup {xs : List D} {i : Int} {d : D} (h0 : 0 ≤ i) (h : xs[i.toNat]? = some d) : dIx (.tup xs) (.int i) = some d := by
  have hl := (List.getElem?_eq_some_iff.mp h).1
  show atI xs i = some d
  unfold atI ixN
  rw [if_pos h0, if_pos (by omega)]
  exact h
/-- an int of a row of ints -/
theorem ints_at {xs : List Int} {i : Int} (h0 : 0 ≤ i) (h : i < xs.length) : ∃ v, v ∈ xs ∧ dIx (.lst (xs.map .int)) (.int i) = some (.int v) := by
  have hl : i.toNat < xs.length := by omega
  refine ⟨xs[i.toNat], List.getElem_mem hl, dIx_lst h0 ?_⟩
  rw [List.getElem?_map, List.getElem?_eq_getElem hl]
  rfl
theorem emod_of {i j : Int} (h : 0 < j) : i.fmod j = i % j := Int.fmod_eq_emod_of_nonneg i (by omega)
theorem ediv_of {i j : Int} (h : 0 < j) : i.fdiv j = i / j := Int.fdiv_eq_ediv_of_nonneg i (by omega)
theorem dEq_i {i j : Int} : dEq (.int i) (.int j) = some (.bl (decide (i = j))) := by
  show some (D.bl (i == j)) = _
  rfl
theorem dNe_i {i j : Int} : dNe (.int i) (.int j) = some (.bl (!decide (i = j))) := by
  show some (D.bl (!(i == j))) = _
  rfl
/-- a comprehension that reads alone -/
theorem comp_ok {vs : List Nat} {tg : Tg} {fs : M (List D)} {fe : M D} {ρ : Sd} {κ : Kp} {xs : List D} (g : D → D) (h : fs ρ κ = .ok xs κ) (hl : xs.length ≤ sizeLine) (he : ∀ d ∈ xs, ∃ ρ', tg d (wipeD ρ vs) = some ρ' ∧ fe ρ' κ = .ok (g d) κ) : eComp vs tg fs mTrue fe ρ κ = .ok (xs.map g) κ := by
  unfold eComp
  rw [h]
  show (if xs.length ≤ sizeLine then compGo vs tg mTrue fe ρ xs κ else .bad) = _
  rw [if_pos hl]
  clear h hl
  induction xs with
  | nil => rfl
  | cons d r ih =>
    obtain ⟨ρ', h1, h2⟩ := he d List.mem_cons_self
    unfold compGo
    rw [h1]
    show (match fe ρ' κ with
      | .ok y κ2 => (match compGo vs tg mTrue fe ρ r κ2 with
        | .ok ys κ3 => Out.ok (y :: ys) κ3
        | _ => .bad)
      | _ => .bad) = _
    rw [h2]
    dsimp only
    rw [ih fun d hd => he d (List.mem_cons_of_mem _ hd)]
    rfl
theorem range_mem {lo : Int} {n : Nat} {d : D} (h : d ∈ rangeD lo n) : ∃ j : Nat, j < n ∧ d = .int (lo + (j : Nat)) := by
  obtain ⟨j, hj⟩ := List.mem_iff_getElem?.mp h
  obtain ⟨e, h2⟩ := range_at hj
  exact ⟨j, h2, e⟩
/-- a walk by an invariant: before the i-th item P i holds -/
theorem for_inv {vs : List Nat} {tg : Tg} {b : Ss → Fl} (P : Nat → Ss → Prop) : ∀ (ds : List D) (i : Nat) (s : Ss), P i s →
    (∀ (j : Nat) (d : D) (s : Ss), ds[j]? = some d → P (i + j) s → ∃ ρ', tg d s.ρ = some ρ' ∧ ∃ s', (b (s.asg vs ρ') = .nx s' ∨ b (s.asg vs ρ') = .ct s') ∧ P (i + j + 1) s') → ∃ s', forGo vs tg b ds s = .nx s' ∧ P (i + ds.length) s'
  | [], i, s, h, _ => ⟨s, rfl, h⟩
  | d :: r, i, s, h, st => by
    obtain ⟨ρ', h1, s', h2, h3⟩ := st 0 d s rfl h
    obtain ⟨s2, h4, h5⟩ := for_inv P r (i + 1) s' h3 fun j d' s'' hd hp => by
      have z := st (j + 1) d' s'' (by simpa using hd) (by rw [show i + (j + 1) = i + 1 + j by omega]; exact hp)
      rw [show i + (j + 1) = i + 1 + j by omega] at z
      exact z
    refine ⟨s2, ?_, by rw [List.length_cons, show i + (r.length + 1) = i + 1 + r.length by omega]; exact h5⟩
    unfold forGo
    rw [h1]
    dsimp only
    rcases h2 with h2 | h2 <;> rw [h2] <;> exact h4
/-- .. an invariant that does not count -/
theorem for_inv0 {vs : List Nat} {tg : Tg} {b : Ss → Fl} (P : Ss → Prop) (ds : List D) (s : Ss) (h : P s)
    (st : ∀ (d : D) (s : Ss), d ∈ ds → P s → ∃ ρ', tg d s.ρ = some ρ' ∧ ∃ s', (b (s.asg vs ρ') = .nx s' ∨ b (s.asg vs ρ') = .ct s') ∧ P s') : ∃ s', forGo vs tg b ds s = .nx s' ∧ P s' :=
  for_inv (fun _ => P) ds 0 s h fun j d s hd hp => st d s (List.mem_of_getElem? hd) hp
end G

set_option Elab.async false
set_option linter.all false
set_option maxRecDepth 100000
/-! What repr gives of data: a text that == may be asked of. -/
namespace G
open PySem PySem.Spec PyProof.Rows L2 RZ GXS He GH
theorem sok_append {a b : Str} (h : PyData.strOk a = true) (k : PyData.strOk b = true) : PyData.strOk (a ++ b) = true := by
  show ((a.cps ++ b.cps).all fun c => decide (c < 0x110000)) = true
  rw [Array.all_append, Bool.and_eq_true]
  exact ⟨h, k⟩
theorem sok_of (s : String) : PyData.strOk (Str.ofString s) = true := by
  rw [Str.ofString_eq_toList]
  show ((s.toList.map Char.toNat).toArray.all fun c => decide (c < 0x110000)) = true
  rw [List.all_toArray, List.all_eq_true]
  intro c hc
  obtain ⟨x, _, rfl⟩ := List.mem_map.mp hc
  refine decide_eq_true ?_
  have h := x.valid
  show x.val.toNat < 0x110000
  rcases h with h | ⟨_, h⟩
  · have : x.val.toNat < 0xd800 := h
    omega
  · exact h
theorem sok_join {sep : Str} (h : PyData.strOk sep = true) : ∀ ts : List Str, (∀ t ∈ ts, PyData.strOk t = true) → PyData.strOk (Str.join sep ts) = true
  | [], _ => show PyData.strOk Str.empty = true from by decide +kernel
  | [x], k => k x List.mem_cons_self
  | x :: y :: r, k => sok_append (sok_append (k x List.mem_cons_self) h) (sok_join h (y :: r) fun t ht => k t (List.mem_cons_of_mem _ ht))
theorem sok_tup (ts : List Str) (h : ∀ t ∈ ts, PyData.strOk t = true) : PyData.strOk (tupleText ts) = true := by
  unfold tupleText
  exact sok_append (sok_append (sok_of _) (sok_join (sok_of _) ts h)) (sok_of _)
theorem sok_from : ∀ (ts : List Str) (k : Nat) (acc : Str), PyData.strOk acc = true → (∀ t ∈ ts, PyData.strOk t = true) → PyData.strOk (textFrom k acc ts) = true
  | [], k, acc, h, _ => h
  | t :: r, k, acc, h, ht => sok_from r (k + 1) _ (sok_append (sok_append h (sok_of _)) (ht t List.mem_cons_self)) fun t ht' => ht t (List.mem_cons_of_mem _ ht')
theorem sok_lst (ts : List Str) (h : ∀ t ∈ ts, PyData.strOk t = true) : PyData.strOk (listText ts) = true := by
  unfold listText
  exact sok_append (sok_from ts 0 _ (sok_of _) h) (sok_of _)
/-- d can be shown, in at most n signs, k deep -/
structure Shw (d : D) (k n : Nat) : Prop where
  ex : ∃ p, d.p = some p ∧ p.showable = true ∧ p.hasDict = false ∧ p.depth ≤ k ∧ p.shown.length ≤ n ∧ PyData.strOk p.shown = true
theorem dNe_str {t : Str} (h : PyData.strOk t = true) : dNe (.str t) (.str t) = some (.bl false) := by
  have e : (D.str t).sh = some (.str t) := by
    unfold D.sh
    show (if SeqAt.shaped (.str t) = true then some (PyData.str t) else none) = _
    rw [if_pos]
    unfold SeqAt.shaped
    simp [PyData.depth, PyData.canLay0, h]
  unfold dNe
  rw [e]
  show some (D.bl (!PyData.eqv (.str t) (.str t))) = _
  simp [PyData.eqv]
theorem Shw.repr {d : D} {k n : Nat} (h : Shw d k n) (hk : k ≤ 60) (hn : n ≤ 16777216) : ∃ s, dRepr [d] = some (.str s) ∧ dNe (.str s) (.str s) = some (.bl false) := by
  obtain ⟨p, h1, h2, h3, h4, h5, h6⟩ := h.ex
  refine ⟨p.shown, ?_, dNe_str h6⟩
  have ok : okShow p = true := by
    unfold okShow
    rw [h2, h3, Bool.true_and, Bool.not_false, Bool.true_and, Bool.and_eq_true]
    exact ⟨decide_eq_true (by omega), decide_eq_true (by rw [sizeLine_eq]; omega)⟩
  show (d.p.bind fun p => if okShow p = true then some (D.str p.shown) else none) = _
  rw [h1]
  show (if okShow p = true then some (D.str p.shown) else none) = _
  rw [if_pos ok]
theorem Shw.mono {d : D} {k n k' n' : Nat} (h : Shw d k n) (a : k ≤ k') (b : n ≤ n') : Shw d k' n' := by
  obtain ⟨p, h1, h2, h3, h4, h5, h6⟩ := h.ex
  exact ⟨p, h1, h2, h3, by omega, by omega, h6⟩
theorem int_text (i : Int) (k : Nat) (hk : 0 < k) (h : i.natAbs < 10 ^ k) : (Str.ofString (toString i)).length ≤ k + 1 := by
  rw [ofString_len]
  cases i with
  | ofNat m =>
    have := (Nat.length_repr_le_iff (n := m) hk).mpr (by simpa using h)
    show (Nat.repr m).length ≤ _
    omega
  | negSucc m =>
    have := (Nat.length_repr_le_iff (n := m + 1) hk).mpr (by simpa using h)
    show ("-" ++ Nat.repr (m + 1)).length ≤ _
    have h1 : "-".length = 1 := by first | rfl | decide
    rw [String.length_append]
    omega
theorem shw_intk {i : Int} {k : Nat} (hk : 0 < k) (hk2 : k ≤ 500) (h : i.natAbs < 10 ^ k) : Shw (.int i) 1 (k + 1) := by
  refine ⟨.int i, rfl, ?_, rfl, by simp [PyData.depth], int_text i k hk h, sok_of _⟩
  have h2 : (10 : Nat) ^ k ≤ 2 ^ 1920 := by
    refine Nat.le_trans (Nat.pow_le_pow_right (by decide) hk2) ?_
    decide +kernel
  have h3 : i.natAbs < 2 ^ 1920 := Nat.lt_of_lt_of_le h h2
  show decide (i.natAbs.log2 < 1920) = true
  by_cases z : i.natAbs = 0
  · rw [z]; decide
  · exact decide_eq_true ((Nat.log2_lt z).mpr h3)
theorem shw_int {i : Int} (h : i.natAbs < 10 ^ 30) : Shw (.int i) 1 31 := shw_intk (by decide) (by decide) h
theorem shw_non : Shw .non 1 4 := ⟨.none, rfl, rfl, rfl, by simp [PyData.depth], by decide, by decide +kernel⟩
theorem shw_bl (b : Bool) : Shw (.bl b) 1 5 := ⟨.bool b, rfl, rfl, rfl, by simp [PyData.depth], by cases b <;> decide, by cases b <;> decide +kernel⟩
/-- rows of shown ones -/
structure Shws (ds : List D) (k n : Nat) : Prop where
  ex : ∃ ps, D.ps ds = some ps ∧ PyData.showableAll ps = true ∧ PyData.hasDictAll ps = false ∧ PyData.depthAll ps ≤ k ∧ piled (PyData.shownAll ps) ≤ n ∧ (PyData.shownAll ps).length = ds.length ∧ ∀ t ∈ PyData.shownAll ps, PyData.strOk t = true
theorem shws_nil : Shws [] 0 0 := ⟨[], rfl, rfl, rfl, by simp [PyData.depthAll], by simp [PyData.shownAll, piled], rfl, fun t h => nomatch h⟩
theorem Shws.mono {d : List D} {k n k' n' : Nat} (h : Shws d k n) (a : k ≤ k') (b : n ≤ n') : Shws d k' n' := by
  obtain ⟨p, h1, h2, h3, h4, h5, h6, h7⟩ := h.ex
  exact ⟨p, h1, h2, h3, by omega, by omega, h6, h7⟩
theorem shws0 {k : Nat} : Shws [] k 0 := shws_nil.mono (by omega) (by omega)
theorem shws_cons {d : D} {ds : List D} {k n m : Nat} (h : Shw d k n) (t : Shws ds k m) : Shws (d :: ds) k (m + (n + 2)) := by
  obtain ⟨p, h1, h2, h3, h4, h5, h6⟩ := h.ex
  obtain ⟨ps, t1, t2, t3, t4, t5, t6, t7⟩ := t.ex
  refine ⟨p :: ps, ?_, ?_, ?_, ?_, ?_, ?_, ?_⟩
  · simp [D.ps, h1, t1]
  · simp [PyData.showableAll, h2, t2]
  · simp [PyData.hasDictAll, h3, t3]
  · simp [PyData.depthAll]; omega
  · show piled (p.shown :: PyData.shownAll ps) ≤ _
    rw [piled_cons]
    omega
  · simp [PyData.shownAll, t6]
  · intro t ht
    rcases List.mem_cons.mp ht with rfl | ht
    · exact h6
    · exact t7 t ht
theorem shws_all {k n : Nat} : ∀ {ds : List D}, (∀ d ∈ ds, Shw d k n) → Shws ds k (ds.length * (n + 2))
  | [], _ => shws_nil.mono (by omega) (by omega)
  | d :: ds, h => (shws_cons (h d List.mem_cons_self) (shws_all fun e he => h e (List.mem_cons_of_mem _ he))).mono (Nat.le_refl _) (by rw [List.length_cons, Nat.add_mul]; omega)
theorem Shws.tup {ds : List D} {k n : Nat} (h : Shws ds k n) : Shw (.tup ds) (k + 1) (n + 3) := by
  obtain ⟨ps, t1, t2, t3, t4, t5, t6, t7⟩ := h.ex
  refine ⟨.tuple ps, ?_, ?_, ?_, ?_, ?_, sok_tup _ t7⟩
  · show (D.ps ds).map PyData.tuple = _
    rw [t1]; rfl
  · simp [PyData.showable, t2]
  · simp [PyData.hasDict, t3]
  · simp [PyData.depth]; omega
  · show (tupleText (PyData.shownAll ps)).length ≤ _
    unfold tupleText
    rw [strLen_append, strLen_append]
    have e1 : ((("(" : String) : Str)).length = 1 := rfl
    have e3 : (((if (PyData.shownAll ps).length == 1 then ",)" else ")" : String) : Str)).length ≤ 2 := by split <;> decide
    by_cases z : PyData.shownAll ps = []
    · rw [z]
      have e : (Str.join ", " []).length = 0 := rfl
      rw [z] at e3
      omega
    · have e := join_length_add (PyData.shownAll ps) z
      omega
theorem piled_sum (ts : List Str) : piled ts = (ts.map (·.length)).sum + 2 * ts.length := by
  induction ts with
  | nil => rfl
  | cons t r ih => rw [piled_cons, ih, List.map_cons, List.sum_cons, List.length_cons]; omega
theorem Shws.lst {ds : List D} {k n : Nat} (h : Shws ds k n) : Shw (.lst ds) (k + 1) (n + 3) := by
  obtain ⟨ps, t1, t2, t3, t4, t5, t6, t7⟩ := h.ex
  refine ⟨.list ps, ?_, ?_, ?_, ?_, ?_, sok_lst _ t7⟩
  · show (D.ps ds).map PyData.list = _
    rw [t1]; rfl
  · simp [PyData.showable, t2]
  · simp [PyData.hasDict, t3]
  · simp [PyData.depth]; omega
  · show (listText (PyData.shownAll ps)).length ≤ _
    have e := listText_len_le (PyData.shownAll ps)
    have e2 := piled_sum (PyData.shownAll ps)
    omega
/-- a constant -/
theorem shw_const {d : D} {p : PyData} {k n : Nat} (h : d.p = some p) (c : (p.showable && !p.hasDict && decide (p.depth ≤ k) && decide (p.shown.length ≤ n) && PyData.strOk p.shown) = true) : Shw d k n := by
  simp only [Bool.and_eq_true, decide_eq_true_eq, Bool.not_eq_true'] at c
  obtain ⟨⟨⟨⟨c1, c2⟩, c3⟩, c4⟩, c5⟩ := c
  exact ⟨p, h, c1, c2, c3, c4, c5⟩
/-- if repr(E1) != repr(E2): .. : both are alike -/
theorem chk {c : Nat} {E1 E2 : M D} {b : Ss → Fl} {s s' : Ss} {d : D} {κ κ' : Kp} (h1 : E1 s.ρ (s.cell (some c) []) = .ok d κ) (h2 : E2 s.ρ κ = .ok d κ') (hs : ∃ t, dRepr [d] = some (.str t) ∧ dNe (.str t) (.str t) = some (.bl false)) (hn : noCel [d] = true) (he : s.put (some c) κ' = s') :
    bIf (some c) [] (tBl (eBin dNe (eArgs dRepr (aCons E1 aNil)) (eArgs dRepr (aCons E2 aNil)))) b bNext s = .nx s' := by
  obtain ⟨t, ht, e⟩ := hs
  simp [h1, h2, hn, ht, e, he]
theorem seq_nx {b1 b2 : Ss → Fl} {s s' : Ss} (h : b1 s = .nx s') : bSeq b1 b2 s = b2 s' := by simp [h]
end G

set_option Elab.async false
set_option linter.all false
set_option maxRecDepth 100000
set_option maxHeartbeats 4000000
namespace LW
open PySem PySem.Spec PyProof.Rows L2 RZ GXS He GH G NdefX
def top (i : Nat) : Stmt := PySem.Challenge.pw_greatersum_k30_whole_weights.main.body.getD i (.Pass ⟨0, 0, 0, 0⟩)
abbrev st_is_integer : Stmt := top 1
def D_is_integer : DefD := ⟨("is_integer", none), "is_integer", "is_integer", defArgs st_is_integer, defBody st_is_integer, defScope st_is_integer, [], []⟩
abbrev st_in_range : Stmt := top 2
def D_in_range : DefD := ⟨("in_range", none), "in_range", "in_range", defArgs st_in_range, defBody st_in_range, defScope st_in_range, [], []⟩
abbrev st_common : Stmt := top 3
def D_common : DefD := ⟨("common", none), "common", "common", defArgs st_common, defBody st_common, defScope st_common, [], []⟩
abbrev st_is_fraction : Stmt := top 11
def D_is_fraction : DefD := ⟨("is_fraction", none), "is_fraction", "is_fraction", defArgs st_is_fraction, defBody st_is_fraction, defScope st_is_fraction, [], []⟩
abbrev st_is_small : Stmt := top 12
def D_is_small : DefD := ⟨("is_small", none), "is_small", "is_small", defArgs st_is_small, defBody st_is_small, defScope st_is_small, [], []⟩
abbrev st_is_small_weight : Stmt := top 13
def D_is_small_weight : DefD := ⟨("is_small_weight", none), "is_small_weight", "is_small_weight", defArgs st_is_small_weight, defBody st_is_small_weight, defScope st_is_small_weight, [], []⟩
abbrev st_demand_weight : Stmt := top 14
def D_demand_weight : DefD := ⟨("demand_weight", none), "demand_weight", "demand_weight", defArgs st_demand_weight, defBody st_demand_weight, defScope st_demand_weight, [], []⟩
abbrev st_made : Stmt := top 15
def D_made : DefD := ⟨("made", none), "made", "made", defArgs st_made, defBody st_made, defScope st_made, [], []⟩
abbrev st_added : Stmt := top 16
def D_added : DefD := ⟨("added", none), "added", "added", defArgs st_added, defBody st_added, defScope st_added, [], []⟩
abbrev st_negated : Stmt := top 17
def D_negated : DefD := ⟨("negated", none), "negated", "negated", defArgs st_negated, defBody st_negated, defScope st_negated, [], []⟩
abbrev st_scaled : Stmt := top 18
def D_scaled : DefD := ⟨("scaled", none), "scaled", "scaled", defArgs st_scaled, defBody st_scaled, defScope st_scaled, [], []⟩
abbrev st_order : Stmt := top 19
def D_order : DefD := ⟨("order", none), "order", "order", defArgs st_order, defBody st_order, defScope st_order, [], []⟩
abbrev st_greater : Stmt := top 20
def D_greater : DefD := ⟨("greater", none), "greater", "greater", defArgs st_greater, defBody st_greater, defScope st_greater, [], []⟩
abbrev st_joined : Stmt := top 21
def D_joined : DefD := ⟨("joined", none), "joined", "joined", defArgs st_joined, defBody st_joined, defScope st_joined, [], []⟩
abbrev st_less : Stmt := top 22
def D_less : DefD := ⟨("less", none), "less", "less", defArgs st_less, defBody st_less, defScope st_less, [], []⟩
abbrev st_weight : Stmt := top 23
def D_weight : DefD := ⟨("weight", none), "weight", "weight", defArgs st_weight, defBody st_weight, defScope st_weight, [], []⟩
abbrev st_demand_two : Stmt := top 24
def D_demand_two : DefD := ⟨("demand_two", none), "demand_two", "demand_two", defArgs st_demand_two, defBody st_demand_two, defScope st_demand_two, [], []⟩
abbrev st_plus : Stmt := top 25
def D_plus : DefD := ⟨("plus", none), "plus", "plus", defArgs st_plus, defBody st_plus, defScope st_plus, [], []⟩
abbrev st_times : Stmt := top 26
def D_times : DefD := ⟨("times", none), "times", "times", defArgs st_times, defBody st_times, defScope st_times, [], []⟩
abbrev st_over : Stmt := top 27
def D_over : DefD := ⟨("over", none), "over", "over", defArgs st_over, defBody st_over, defScope st_over, [], []⟩
abbrev st_compare : Stmt := top 28
def D_compare : DefD := ⟨("compare", none), "compare", "compare", defArgs st_compare, defBody st_compare, defScope st_compare, [], []⟩
abbrev st_raised : Stmt := top 29
def D_raised : DefD := ⟨("raised", none), "raised", "raised", defArgs st_raised, defBody st_raised, defScope st_raised, [], []⟩
abbrev st_root : Stmt := top 30
def D_root : DefD := ⟨("root", none), "root", "root", defArgs st_root, defBody st_root, defScope st_root, [], []⟩
abbrev st_is_row : Stmt := top 31
def D_is_row : DefD := ⟨("is_row", none), "is_row", "is_row", defArgs st_is_row, defBody st_is_row, defScope st_is_row, [], []⟩
abbrev st_demand_row : Stmt := top 32
def D_demand_row : DefD := ⟨("demand_row", none), "demand_row", "demand_row", defArgs st_demand_row, defBody st_demand_row, defScope st_demand_row, [], []⟩
abbrev st_shift_of : Stmt := top 33
def D_shift_of : DefD := ⟨("shift_of", none), "shift_of", "shift_of", defArgs st_shift_of, defBody st_shift_of, defScope st_shift_of, [], []⟩
abbrev st_shift_between : Stmt := top 34
def D_shift_between : DefD := ⟨("shift_between", none), "shift_between", "shift_between", defArgs st_shift_between, defBody st_shift_between, defScope st_shift_between, [], []⟩
abbrev st__law_draws : Stmt := top 36
def D__law_draws : DefD := ⟨("_law_draws", none), "_law_draws", "_law_draws", defArgs st__law_draws, defBody st__law_draws, defScope st__law_draws, [], []⟩
abbrev st__law_more : Stmt := top 37
def D__law_more : DefD := ⟨("_law_more", none), "_law_more", "_law_more", defArgs st__law_more, defBody st__law_more, defScope st__law_more, [], []⟩
abbrev st__law_take : Stmt := top 38
def D__law_take : DefD := ⟨("_law_take", none), "_law_take", "_law_take", defArgs st__law_take, defBody st__law_take, defScope st__law_take, [], []⟩
abbrev st__law_one : Stmt := top 39
def D__law_one : DefD := ⟨("_law_one", none), "_law_one", "_law_one", defArgs st__law_one, defBody st__law_one, defScope st__law_one, [], []⟩
abbrev st__law_common : Stmt := top 40
def D__law_common : DefD := ⟨("_law_common", none), "_law_common", "_law_common", defArgs st__law_common, defBody st__law_common, defScope st__law_common, [], []⟩
abbrev st__law_made : Stmt := top 41
def D__law_made : DefD := ⟨("_law_made", none), "_law_made", "_law_made", defArgs st__law_made, defBody st__law_made, defScope st__law_made, [], []⟩
abbrev st__law_plus : Stmt := top 42
def D__law_plus : DefD := ⟨("_law_plus", none), "_law_plus", "_law_plus", defArgs st__law_plus, defBody st__law_plus, defScope st__law_plus, [], []⟩
abbrev st__law_scaled : Stmt := top 43
def D__law_scaled : DefD := ⟨("_law_scaled", none), "_law_scaled", "_law_scaled", defArgs st__law_scaled, defBody st__law_scaled, defScope st__law_scaled, [], []⟩
abbrev st__law_back : Stmt := top 44
def D__law_back : DefD := ⟨("_law_back", none), "_law_back", "_law_back", defArgs st__law_back, defBody st__law_back, defScope st__law_back, [], []⟩
abbrev st__law_less : Stmt := top 45
def D__law_less : DefD := ⟨("_law_less", none), "_law_less", "_law_less", defArgs st__law_less, defBody st__law_less, defScope st__law_less, [], []⟩
abbrev st__law_order : Stmt := top 46
def D__law_order : DefD := ⟨("_law_order", none), "_law_order", "_law_order", defArgs st__law_order, defBody st__law_order, defScope st__law_order, [], []⟩
abbrev st__law_most : Stmt := top 47
def D__law_most : DefD := ⟨("_law_most", none), "_law_most", "_law_most", defArgs st__law_most, defBody st__law_most, defScope st__law_most, [], []⟩
abbrev st__law_weight : Stmt := top 48
def D__law_weight : DefD := ⟨("_law_weight", none), "_law_weight", "_law_weight", defArgs st__law_weight, defBody st__law_weight, defScope st__law_weight, [], []⟩
abbrev st__law_told : Stmt := top 49
def D__law_told : DefD := ⟨("_law_told", none), "_law_told", "_law_told", defArgs st__law_told, defBody st__law_told, defScope st__law_told, [], []⟩
abbrev st__law_whole : Stmt := top 50
def D__law_whole : DefD := ⟨("_law_whole", none), "_law_whole", "_law_whole", defArgs st__law_whole, defBody st__law_whole, defScope st__law_whole, [], []⟩
abbrev st__law_any : Stmt := top 51
def D__law_any : DefD := ⟨("_law_any", none), "_law_any", "_law_any", defArgs st__law_any, defBody st__law_any, defScope st__law_any, [], []⟩
abbrev st__law_shift : Stmt := top 52
def D__law_shift : DefD := ⟨("_law_shift", none), "_law_shift", "_law_shift", defArgs st__law_shift, defBody st__law_shift, defScope st__law_shift, [], []⟩
abbrev st_law : Stmt := top 53
def D_law : DefD := ⟨("law", none), "law", "law", defArgs st_law, defBody st_law, defScope st_law, [], []⟩
abbrev si_ReasonError : Stmt := kS 0 (top 6)
def I_ReasonError : IniD := ⟨"ReasonError", "__init__", "ReasonError.__init__", defArgs si_ReasonError, defBody si_ReasonError, defScope si_ReasonError⟩
def fa : List Fa := [.free "isinstance", .free "int", .free "bool", .glo "is_integer", .glo "in_range", .free "abs", .glo "common", .free "tuple", .free "len", .free "all", .glo "is_fraction", .int "MAX_NUMBER" 1000000, .glo "is_small", .glo "is_small_weight", .glo "demand_weight", .glo "made", .glo "added", .glo "negated", .glo "scaled", .glo "order", .glo "greater", .glo "joined", .glo "less", .glo "weight", .glo "demand_two", .glo "plus", .glo "times", .glo "over", .glo "compare", .glo "raised", .glo "root", .glo "is_row", .glo "demand_row", .free "zip", .glo "shift_of", .glo "shift_between", .free "range", .glo "_law_draws", .glo "_law_more", .glo "_law_take", .glo "_law_one", .glo "_law_common", .glo "_law_made", .glo "_law_plus", .glo "_law_scaled", .glo "_law_back", .glo "_law_less", .glo "_law_order", .glo "_law_most", .glo "_law_weight", .glo "ArgumentError", .glo "MeasureError", .glo "_law_told", .glo "_law_whole", .glo "_law_any", .free "dict", .free "list", .glo "_law_shift", .free "repr", .glo "law", .exm "ArgumentError" "ArgumentError" true, .free "super"]
def fn : List DefD := [D_is_integer, D_in_range, D_common, D_is_fraction, D_is_small, D_is_small_weight, D_demand_weight, D_made, D_added, D_negated, D_scaled, D_order, D_greater, D_joined, D_less, D_weight, D_demand_two, D_plus, D_times, D_over, D_compare, D_raised, D_root, D_is_row, D_demand_row, D_shift_of, D_shift_between, D__law_draws, D__law_more, D__law_take, D__law_one, D__law_common, D__law_made, D__law_plus, D__law_scaled, D__law_back, D__law_less, D__law_order, D__law_most, D__law_weight, D__law_told, D__law_whole, D__law_any, D__law_shift, D_law]
def fx : List Fx := [.tup "ZERO" [0, 1], .exn "ArgumentError" "ReasonError" ["reason"], .kit "ArgumentError" "MeasureError" true]
def fi : List IniD := [I_ReasonError]
theorem bb_abs : bootBuiltins "abs" = some (.builtin "abs") := by decide +kernel
theorem bb_all : bootBuiltins "all" = some (.builtin "all") := by decide +kernel
theorem bb_bool : bootBuiltins "bool" = some (.type "bool") := by decide +kernel
theorem bb_dict : bootBuiltins "dict" = some (.type "dict") := by decide +kernel
theorem bb_int : bootBuiltins "int" = some (.type "int") := by decide +kernel
theorem bb_isinstance : bootBuiltins "isinstance" = some (.builtin "isinstance") := by decide +kernel
theorem bb_len : bootBuiltins "len" = some (.builtin "len") := by decide +kernel
theorem bb_list : bootBuiltins "list" = some (.type "list") := by decide +kernel
theorem bb_repr : bootBuiltins "repr" = some (.builtin "repr") := by decide +kernel
theorem bb_tuple : bootBuiltins "tuple" = some (.type "tuple") := by decide +kernel
theorem ini_ReasonError {m : Mo} (I : InA m fa fn fx fi) : ∀ fI D fd, IniI m.P m.K I_ReasonError fI D fd → FnOk m.P m.w m.K m.mg m.base (L2.CX m.P m.w) 1 fI fd ["self", "reason"] (spS m.K D (N1 "reason") 2 (tCons (tVar 1) tNil) (bd1 m.K "reason")) ∧ Binds m.K fd ["self", "reason"] [] := by
  rintro fI D fd F
  obtain ⟨oc, od, kV, doc, pm, an, cc, cda, ct, osl, rfl, lk, hcd, T⟩ := F.ex
  exact ⟨fn_super (k := 0) lk hcd (nscope_by (by decide +kernel)) rfl T rfl rfl (I.free 61) (by decide +kernel) (fun A outer s H E => pa_cons (pv 1) pa_nil) (fun A outer s H E => pss_one (ps_ost (pv 0) (pv 1))), Binds.all fun us hl => match us, hl with | [_, _], _ => rfl⟩
theorem M_ArgumentError {m : Mo} (I : InA m fa fn fx fi) : Mk1 m "ArgumentError" "reason" := mk1_of I 1 0 rfl rfl rfl (ini_ReasonError I)
theorem xf_ArgumentError_reason {m : Mo} (I : InA m fa fn fx fi) : XfC m.K (ga m.K "ArgumentError") ∧ PySem.W.findIn m.K (.ref (ga m.K "ArgumentError")) "reason" = some none := ⟨(I.exn 1 rfl).2.1.xf, (I.exn 1 rfl).2.1.no "reason" (by decide +kernel)⟩
theorem cat_ArgumentError {m : Mo} (I : InA m fa fn fx fi) : CatT m.C ["ArgumentError"] ["ArgumentError"] (.ref (ga m.K "ArgumentError")) := ⟨fun n hn c hc => by
  simp only [List.mem_cons, List.not_mem_nil, or_false] at hn
  rcases hn with rfl
  · have e := hc.symm.trans (I.glo 50)
    cases e
    exact (I.exm 60).trans (by decide +kernel)⟩
theorem ist_ArgumentError_MeasureError {m : Mo} (I : InA m fa fn fx fi) : IsT m.C ["ArgumentError"] ["ArgumentError"] (.ref (ga m.K "MeasureError")) := ⟨fun n hn c hc => by
  simp only [List.mem_cons, List.not_mem_nil, or_false] at hn
  subst hn
  · have e := hc.symm.trans (I.exn 1 rfl).1
    cases e
    exact ⟨(I.exn 1 rfl).2.1.ec, (of_decide_eq_true (I.fxo 2 rfl)).trans (by decide +kernel)⟩⟩
/-! is_integer -/
def N_is_integer : List Str := ["value"]
theorem S_is_integer : FnScope N_is_integer ["value"] (defScope st_is_integer) := ⟨rfl, rfl, rfl, by decide +kernel, rfl, by decide +kernel, by decide +kernel⟩
theorem nm_is_integer : nmB [0] N_is_integer (defScope st_is_integer) = true := by decide +kernel
theorem gl_is_integer : glB ["isinstance", "int", "bool"] (defScope st_is_integer) = true := by decide +kernel
def b_is_integer : Ss → Fl := ((bRet none [] ((eAnd (eUn (fun d => dIsi "int" [d]) (eVar 0)) (eNot (eUn (fun d => dIsi "bool" [d]) (eVar 0)))))))
def d_is_integer : List D → Kp → Out D := fdef 1 none false b_is_integer
theorem H_is_integer {m : Mo} (I : InA m fa fn fx fi) : Has m 1 "is_integer" ["value"] d_is_integer :=
  has_of (N := N_is_integer) (cs := none) (cp := false) (b := b_is_integer) (d := D_is_integer) I 0 3 S_is_integer (fun _ _ _ _ _ _ us hl => match us, hl with | [_], _ => rfl) (fun cdv A outer s H E hg hr tk hp => by
    unfold b_is_integer
    exact (ss_one ((st_ret [] ((px_and (px_isi 0 1 gl_is_integer (px_var 0 nm_is_integer) (I.free 0) (I.free 1) bb_isinstance bb_int) (px_one (px_not (px_isi 0 2 gl_is_integer (px_var 0 nm_is_integer) (I.free 0) (I.free 2) bb_isinstance bb_bool)))))))))
/-! in_range -/
def N_in_range : List Str := ["value", "least", "most"]
theorem S_in_range : FnScope N_in_range ["value", "least", "most"] (defScope st_in_range) := ⟨rfl, rfl, rfl, by decide +kernel, rfl, by decide +kernel, by decide +kernel⟩
theorem nm_in_range : nmB [0, 1, 2] N_in_range (defScope st_in_range) = true := by decide +kernel
theorem gl_in_range : glB ["is_integer"] (defScope st_in_range) = true := by decide +kernel
def b_in_range : Ss → Fl := ((bRet none [] ((eAnd (eCall 1 d_is_integer (aCons (eVar 0) aNil)) (eChain dLe dLe (eVar 1) (eVar 0) (eVar 2))))))
def d_in_range : List D → Kp → Out D := fdef 3 none false b_in_range
theorem H_in_range {m : Mo} (I : InA m fa fn fx fi) : Has m 2 "in_range" ["value", "least", "most"] d_in_range :=
  has_of (N := N_in_range) (cs := none) (cp := false) (b := b_in_range) (d := D_in_range) I 1 4 S_in_range (fun _ _ _ _ _ _ us hl => match us, hl with | [_, _, _], _ => rfl) (fun cdv A outer s H E hg hr tk hp => by
    unfold b_in_range
    exact (ss_one ((st_ret [] ((px_and (px_callH 0 gl_in_range (H_is_integer I) ⟨rfl, rfl, rfl, rfl, rfl⟩ hg hr (by decide) tk (ax_cons (px_var 0 nm_in_range) ax_nil)) (px_one (px_chain op_le op_le (sd_cmp _) (sd_cmp _) (px_var 1 nm_in_range) (px_var 0 nm_in_range) (px_var 2 nm_in_range)))))))))
/-! common -/
def N_common : List Str := ["number", "other"]
theorem S_common : FnScope N_common ["number", "other"] (defScope st_common) := ⟨rfl, rfl, rfl, by decide +kernel, rfl, by decide +kernel, by decide +kernel⟩
theorem nm_common : nmB [0, 1] N_common (defScope st_common) = true := by decide +kernel
theorem lc_common : lcB [0, 1] N_common (defScope st_common) = true := by decide +kernel
theorem gl_common : glB ["abs"] (defScope st_common) = true := by decide +kernel
noncomputable def l1_common : Ss → Fl := (bPar none 0 1 (aCons (eVar 1) (aCons (eBin dMod (eVar 0) (eVar 1)) aNil)))
noncomputable def b_common : Ss → Fl := (bSeq (bPar none 0 1 (aCons (eArgs dAbs (aCons (eVar 0) aNil)) (aCons (eArgs dAbs (aCons (eVar 1) aNil)) aNil))) (bSeq (bWhile none [] (tTru (eVar 1)) l1_common) ((bRet none [] (eVar 0)))))
noncomputable def d_common : List D → Kp → Out D := fdef 2 none false b_common
theorem H_common {m : Mo} (I : InA m fa fn fx fi) : Has m 1 "common" ["number", "other"] d_common :=
  has_of (N := N_common) (cs := none) (cp := false) (b := b_common) (d := D_common) I 2 6 S_common (fun _ _ _ _ _ _ us hl => match us, hl with | [_, _], _ => rfl) (fun cdv A outer s H E hg hr tk hp => by
    unfold b_common
    exact (ss_cons (st_par 0 1 lc_common S_common.nd rfl (ax_cons (px_blt 0 gl_common call_abs sd_abs (I.free 5) bb_abs (ax_cons (px_var 0 nm_common) ax_nil)) (ax_cons (px_blt 0 gl_common call_abs sd_abs (I.free 5) bb_abs (ax_cons (px_var 1 nm_common) ax_nil)) ax_nil))) (ss_cons (st_while [] hp (tx_tru (px_var 1 nm_common)) (ss_one (st_par 0 1 lc_common S_common.nd rfl (ax_cons (px_var 1 nm_common) (ax_cons (px_bin op_modN sd_mod (px_var 0 nm_common) (px_var 1 nm_common)) ax_nil))))) (ss_one ((st_ret [] (px_var 0 nm_common)))))))
/-! is_fraction -/
def N_is_fraction : List Str := ["value", "part"]
theorem S_is_fraction : FnScope N_is_fraction ["value"] (defScope st_is_fraction) := ⟨rfl, rfl, rfl, by decide +kernel, rfl, by decide +kernel, by decide +kernel⟩
theorem nm_is_fraction : nmB [0] N_is_fraction (defScope st_is_fraction) = true := by decide +kernel
theorem gl_is_fraction : glB ["isinstance", "tuple", "len", "all", "common"] (defScope st_is_fraction) = true := by decide +kernel
def cs_is_fraction_1 : Scope := kC (kE 1 (kE 0 (kE 2 (kV (kS 0 (st_is_fraction))))))
theorem bk_is_fraction_1 : blkC N_is_fraction (defScope st_is_fraction) cs_is_fraction_1 [("part", 1)] = true := by decide +kernel
theorem nm_is_fraction_1 : nmB [1] N_is_fraction (relS cs_is_fraction_1 (defScope st_is_fraction)) = true := by decide +kernel
theorem lc_is_fraction_1 : lcB [1] N_is_fraction (relS cs_is_fraction_1 (defScope st_is_fraction)) = true := by decide +kernel
theorem gl_is_fraction_1 : glB ["is_integer"] (relS cs_is_fraction_1 (defScope st_is_fraction)) = true := by decide +kernel
noncomputable def b_is_fraction : Ss → Fl := (bSeq (bIf none [] ((G.tOr (G.tNot (tTru (eUn (fun d => dIsi "tuple" [d]) (eVar 0)))) (G.tOr (tBl (eBin dNe (eArgs dLen (aCons (eVar 0) aNil)) (eC (.int 2)))) (G.tNot (tTru (eArgs dAll (aCons (eLst (eComp [1] (tName 1) (iOf (eVar 0)) mTrue (eCall 1 d_is_integer (aCons (eVar 1) aNil)))) aNil))))))) ((bRet none [] (eC (.bl false)))) bNext) ((bRet none [] ((eAnd (eBin dGt (eBin dIx (eVar 0) (eC (.int 1))) (eC (.int 0))) (eBin dEq (eCall 2 d_common (aCons (eBin dIx (eVar 0) (eC (.int 0))) (aCons (eBin dIx (eVar 0) (eC (.int 1))) aNil))) (eC (.int 1))))))))
noncomputable def d_is_fraction : List D → Kp → Out D := fdef 2 none false b_is_fraction
theorem H_is_fraction {m : Mo} (I : InA m fa fn fx fi) : Has m 2 "is_fraction" ["value"] d_is_fraction :=
  has_of (N := N_is_fraction) (cs := none) (cp := false) (b := b_is_fraction) (d := D_is_fraction) I 3 10 S_is_fraction (fun _ _ _ _ _ _ us hl => match us, hl with | [_], _ => rfl) (fun cdv A outer s H E hg hr tk hp => by
    unfold b_is_fraction
    exact (ss_cons (st_if [] (tx_w (wx_or (tx_not (tx_tru (px_isi 0 1 gl_is_fraction (px_var 0 nm_is_fraction) (I.free 0) (I.free 7) bb_isinstance bb_tuple))) (wx_or (tx_cmp (op_neD hr.units) sd_ne (px_blt 2 gl_is_fraction call_lenG sd_len (I.free 8) bb_len (ax_cons (px_var 0 nm_is_fraction) ax_nil)) (px_int)) (wx_or1 (tx_not (tx_tru (px_blt 3 gl_is_fraction (cr_all rfl) sd_all (I.free 9) bb_all (ax_cons (px_lc (lx_0 (own := [("part", 1)]) (by rfl) (ix_any (px_var 0 nm_is_fraction)) (fun _ => (gx_name 1 lc_is_fraction_1 S_is_fraction.nd)) (fun _ => (px_callH 0 gl_is_fraction_1 (H_is_integer I) ⟨rfl, rfl, rfl, rfl, rfl⟩ hg hr (by decide) takes_none5 (ax_cons (px_var 1 nm_is_fraction_1) ax_nil)))) (blkOk_by bk_is_fraction_1) S_is_fraction.nd rfl) ax_nil)))))))) (ss_one ((st_ret [] (px_bl)))) ss_nil) (ss_one ((st_ret [] ((px_and (px_cmp op_gt (sd_cmp _) (px_ix (px_var 0 nm_is_fraction) (px_int)) (px_int)) (px_one (px_cmp (op_eqD hr.units) sd_eq (px_callH 4 gl_is_fraction (H_common I) ⟨rfl, rfl, rfl, rfl, rfl⟩ hg hr (by decide) tk (ax_cons (px_ix (px_var 0 nm_is_fraction) (px_int)) (ax_cons (px_ix (px_var 0 nm_is_fraction) (px_int)) ax_nil))) (px_int))))))))))
/-! is_small -/
def N_is_small : List Str := ["value"]
theorem S_is_small : FnScope N_is_small ["value"] (defScope st_is_small) := ⟨rfl, rfl, rfl, by decide +kernel, rfl, by decide +kernel, by decide +kernel⟩
theorem nm_is_small : nmB [0] N_is_small (defScope st_is_small) = true := by decide +kernel
theorem gl_is_small : glB ["isinstance", "tuple", "len", "in_range", "MAX_NUMBER", "is_fraction"] (defScope st_is_small) = true := by decide +kernel
noncomputable def b_is_small : Ss → Fl := (bSeq (bIf none [] ((G.tOr (G.tNot (tTru (eUn (fun d => dIsi "tuple" [d]) (eVar 0)))) (tBl (eBin dNe (eArgs dLen (aCons (eVar 0) aNil)) (eC (.int 2)))))) ((bRet none [] (eC (.bl false)))) bNext) (bSeq (bIf none [] ((G.tOr (G.tNot (tTru (eCall 3 d_in_range (aCons (eBin dIx (eVar 0) (eC (.int 0))) (aCons (eBin dSub (eC (.int 0)) (eC (.int 1000000))) (aCons (eC (.int 1000000)) aNil)))))) (G.tNot (tTru (eCall 3 d_in_range (aCons (eBin dIx (eVar 0) (eC (.int 1))) (aCons (eC (.int 1)) (aCons (eC (.int 1000000)) aNil)))))))) ((bRet none [] (eC (.bl false)))) bNext) ((bRet none [] (eCall 1 d_is_fraction (aCons (eVar 0) aNil))))))
noncomputable def d_is_small : List D → Kp → Out D := fdef 1 none false b_is_small
theorem H_is_small {m : Mo} (I : InA m fa fn fx fi) : Has m 3 "is_small" ["value"] d_is_small :=
  has_of (N := N_is_small) (cs := none) (cp := false) (b := b_is_small) (d := D_is_small) I 4 12 S_is_small (fun _ _ _ _ _ _ us hl => match us, hl with | [_], _ => rfl) (fun cdv A outer s H E hg hr tk hp => by
    unfold b_is_small
    exact (ss_cons (st_if [] (tx_w (wx_or (tx_not (tx_tru (px_isi 0 1 gl_is_small (px_var 0 nm_is_small) (I.free 0) (I.free 7) bb_isinstance bb_tuple))) (wx_or1 (tx_cmp (op_neD hr.units) sd_ne (px_blt 2 gl_is_small call_lenG sd_len (I.free 8) bb_len (ax_cons (px_var 0 nm_is_small) ax_nil)) (px_int))))) (ss_one ((st_ret [] (px_bl)))) ss_nil) (ss_cons (st_if [] (tx_w (wx_or (tx_not (tx_tru (px_callH 3 gl_is_small (H_in_range I) ⟨rfl, rfl, rfl, rfl, rfl⟩ hg hr (by decide) tk (ax_cons (px_ix (px_var 0 nm_is_small) (px_int)) (ax_cons (px_bin op_subG sd_sub (px_int) (px_glob 4 gl_is_small (I.int 11))) (ax_cons (px_glob 4 gl_is_small (I.int 11)) ax_nil)))))) (wx_or1 (tx_not (tx_tru (px_callH 3 gl_is_small (H_in_range I) ⟨rfl, rfl, rfl, rfl, rfl⟩ hg hr (by decide) tk (ax_cons (px_ix (px_var 0 nm_is_small) (px_int)) (ax_cons (px_int) (ax_cons (px_glob 4 gl_is_small (I.int 11)) ax_nil))))))))) (ss_one ((st_ret [] (px_bl)))) ss_nil) (ss_one ((st_ret [] (px_callH 5 gl_is_small (H_is_fraction I) ⟨rfl, rfl, rfl, rfl, rfl⟩ hg hr (by decide) tk (ax_cons (px_var 0 nm_is_small) ax_nil))))))))
/-! is_small_weight -/
def N_is_small_weight : List Str := ["value"]
theorem S_is_small_weight : FnScope N_is_small_weight ["value"] (defScope st_is_small_weight) := ⟨rfl, rfl, rfl, by decide +kernel, rfl, by decide +kernel, by decide +kernel⟩
theorem nm_is_small_weight : nmB [0] N_is_small_weight (defScope st_is_small_weight) = true := by decide +kernel
theorem gl_is_small_weight : glB ["is_small"] (defScope st_is_small_weight) = true := by decide +kernel
noncomputable def b_is_small_weight : Ss → Fl := ((bRet none [] ((eOr (eBin dIsN (eVar 0) (eC .non)) (eCall 1 d_is_small (aCons (eVar 0) aNil))))))
noncomputable def d_is_small_weight : List D → Kp → Out D := fdef 1 none false b_is_small_weight
theorem H_is_small_weight {m : Mo} (I : InA m fa fn fx fi) : Has m 4 "is_small_weight" ["value"] d_is_small_weight :=
  has_of (N := N_is_small_weight) (cs := none) (cp := false) (b := b_is_small_weight) (d := D_is_small_weight) I 5 13 S_is_small_weight (fun _ _ _ _ _ _ us hl => match us, hl with | [_], _ => rfl) (fun cdv A outer s H E hg hr tk hp => by
    unfold b_is_small_weight
    exact (ss_one ((st_ret [] ((px_or (px_cmp op_isN sd_isN (px_var 0 nm_is_small_weight) (px_non)) (px_one (px_callH 0 gl_is_small_weight (H_is_small I) ⟨rfl, rfl, rfl, rfl, rfl⟩ hg hr (by decide) tk (ax_cons (px_var 0 nm_is_small_weight) ax_nil)))))))))
/-! demand_weight -/
def N_demand_weight : List Str := ["value", "reason"]
theorem S_demand_weight : FnScope N_demand_weight ["value", "reason"] (defScope st_demand_weight) := ⟨rfl, rfl, rfl, by decide +kernel, rfl, by decide +kernel, by decide +kernel⟩
theorem nm_demand_weight : nmB [0, 1] N_demand_weight (defScope st_demand_weight) = true := by decide +kernel
theorem gl_demand_weight : glB ["is_small_weight", "ArgumentError"] (defScope st_demand_weight) = true := by decide +kernel
noncomputable def b_demand_weight : Ss → Fl := (bIf none [] (G.tNot (tTru (eCall 1 d_is_small_weight (aCons (eVar 0) aNil)))) (bRaise none [] (eExn (dExn "ArgumentError" ["reason"]) (aCons (eVar 1) aNil))) bNext)
noncomputable def d_demand_weight : List D → Kp → Out D := fdef 2 none false b_demand_weight
theorem H_demand_weight {m : Mo} (I : InA m fa fn fx fi) : Has m 5 "demand_weight" ["value", "reason"] d_demand_weight :=
  has_of (N := N_demand_weight) (cs := none) (cp := false) (b := b_demand_weight) (d := D_demand_weight) I 6 14 S_demand_weight (fun _ _ _ _ _ _ us hl => match us, hl with | [_, _], _ => rfl) (fun cdv A outer s H E hg hr tk hp => by
    unfold b_demand_weight
    exact (ss_one (st_if [] (tx_not (tx_tru (px_callH 0 gl_demand_weight (H_is_small_weight I) ⟨rfl, rfl, rfl, rfl, rfl⟩ hg hr (by decide) tk (ax_cons (px_var 0 nm_demand_weight) ax_nil)))) (ss_one (st_raise [] rfl tk (mx_1 1 gl_demand_weight (M_ArgumentError I) ⟨rfl, rfl, rfl, rfl, rfl⟩ hr (by decide) (ax_cons (px_var 1 nm_demand_weight) ax_nil)))) ss_nil)))
/-! made -/
def N_made : List Str := ["number", "other", "part"]
theorem S_made : FnScope N_made ["number", "other"] (defScope st_made) := ⟨rfl, rfl, rfl, by decide +kernel, rfl, by decide +kernel, by decide +kernel⟩
theorem nm_made : nmB [0, 1, 2] N_made (defScope st_made) = true := by decide +kernel
theorem lc_made : lcB [0, 1] N_made (defScope st_made) = true := by decide +kernel
theorem sb_made : stB [2] N_made (defScope st_made) = true := by decide +kernel
theorem gl_made : glB ["common"] (defScope st_made) = true := by decide +kernel
noncomputable def b_made : Ss → Fl := (bSeq (bIf none [] (tBl (eBin dLt (eVar 1) (eC (.int 0)))) (bPar none 0 1 (aCons (eBin dSub (eC (.int 0)) (eVar 0)) (aCons (eBin dSub (eC (.int 0)) (eVar 1)) aNil))) bNext) (bSeq (bAsg none [] [2] (tName 2) (eCall 2 d_common (aCons (eVar 0) (aCons (eVar 1) aNil)))) ((bRet none [] (eArgs dTup (aCons (eBin dDiv (eVar 0) (eVar 2)) (aCons (eBin dDiv (eVar 1) (eVar 2)) aNil)))))))
noncomputable def d_made : List D → Kp → Out D := fdef 3 none false b_made
theorem H_made {m : Mo} (I : InA m fa fn fx fi) : Has m 2 "made" ["number", "other"] d_made :=
  has_of (N := N_made) (cs := none) (cp := false) (b := b_made) (d := D_made) I 7 15 S_made (fun _ _ _ _ _ _ us hl => match us, hl with | [_, _], _ => rfl) (fun cdv A outer s H E hg hr tk hp => by
    unfold b_made
    exact (ss_cons (st_if [] (tx_cmp op_lt (sd_cmp _) (px_var 1 nm_made) (px_int)) (ss_one (st_par 0 1 lc_made S_made.nd rfl (ax_cons (px_bin op_subG sd_sub (px_int) (px_var 0 nm_made)) (ax_cons (px_bin op_subG sd_sub (px_int) (px_var 1 nm_made)) ax_nil)))) ss_nil) (ss_cons (st_set 2 [] sb_made S_made.nd (px_callH 0 gl_made (H_common I) ⟨rfl, rfl, rfl, rfl, rfl⟩ hg hr (by decide) tk (ax_cons (px_var 0 nm_made) (ax_cons (px_var 1 nm_made) ax_nil)))) (ss_one ((st_ret [] (px_tup (ax_cons (px_bin op_divI sd_div (px_var 0 nm_made) (px_var 2 nm_made)) (ax_cons (px_bin op_divI sd_div (px_var 1 nm_made) (px_var 2 nm_made)) ax_nil)))))))))
/-! added -/
def N_added : List Str := ["one", "other"]
theorem S_added : FnScope N_added ["one", "other"] (defScope st_added) := ⟨rfl, rfl, rfl, by decide +kernel, rfl, by decide +kernel, by decide +kernel⟩
theorem nm_added : nmB [0, 1] N_added (defScope st_added) = true := by decide +kernel
theorem gl_added : glB ["made"] (defScope st_added) = true := by decide +kernel
noncomputable def b_added : Ss → Fl := ((bRet none [] (eCall 2 d_made (aCons (eBin dAdd (eBin dMul (eBin dIx (eVar 0) (eC (.int 0))) (eBin dIx (eVar 1) (eC (.int 1)))) (eBin dMul (eBin dIx (eVar 1) (eC (.int 0))) (eBin dIx (eVar 0) (eC (.int 1))))) (aCons (eBin dMul (eBin dIx (eVar 0) (eC (.int 1))) (eBin dIx (eVar 1) (eC (.int 1)))) aNil)))))
noncomputable def d_added : List D → Kp → Out D := fdef 2 none false b_added
theorem H_added {m : Mo} (I : InA m fa fn fx fi) : Has m 3 "added" ["one", "other"] d_added :=
  has_of (N := N_added) (cs := none) (cp := false) (b := b_added) (d := D_added) I 8 16 S_added (fun _ _ _ _ _ _ us hl => match us, hl with | [_, _], _ => rfl) (fun cdv A outer s H E hg hr tk hp => by
    unfold b_added
    exact (ss_one ((st_ret [] (px_callH 0 gl_added (H_made I) ⟨rfl, rfl, rfl, rfl, rfl⟩ hg hr (by decide) tk (ax_cons (px_bin op_addG sd_add (px_bin op_mulG sd_mul (px_ix (px_var 0 nm_added) (px_int)) (px_ix (px_var 1 nm_added) (px_int))) (px_bin op_mulG sd_mul (px_ix (px_var 1 nm_added) (px_int)) (px_ix (px_var 0 nm_added) (px_int)))) (ax_cons (px_bin op_mulG sd_mul (px_ix (px_var 0 nm_added) (px_int)) (px_ix (px_var 1 nm_added) (px_int))) ax_nil)))))))
/-! negated -/
def N_negated : List Str := ["one"]
theorem S_negated : FnScope N_negated ["one"] (defScope st_negated) := ⟨rfl, rfl, rfl, by decide +kernel, rfl, by decide +kernel, by decide +kernel⟩
theorem nm_negated : nmB [0] N_negated (defScope st_negated) = true := by decide +kernel
def b_negated : Ss → Fl := ((bRet none [] (eArgs dTup (aCons (eBin dSub (eC (.int 0)) (eBin dIx (eVar 0) (eC (.int 0)))) (aCons (eBin dIx (eVar 0) (eC (.int 1))) aNil)))))
def d_negated : List D → Kp → Out D := fdef 1 none false b_negated
theorem H_negated {m : Mo} (I : InA m fa fn fx fi) : Has m 1 "negated" ["one"] d_negated :=
  has_of (N := N_negated) (cs := none) (cp := false) (b := b_negated) (d := D_negated) I 9 17 S_negated (fun _ _ _ _ _ _ us hl => match us, hl with | [_], _ => rfl) (fun cdv A outer s H E hg hr tk hp => by
    unfold b_negated
    exact (ss_one ((st_ret [] (px_tup (ax_cons (px_bin op_subG sd_sub (px_int) (px_ix (px_var 0 nm_negated) (px_int))) (ax_cons (px_ix (px_var 0 nm_negated) (px_int)) ax_nil)))))))
/-! scaled -/
def N_scaled : List Str := ["one", "number", "other"]
theorem S_scaled : FnScope N_scaled ["one", "number", "other"] (defScope st_scaled) := ⟨rfl, rfl, rfl, by decide +kernel, rfl, by decide +kernel, by decide +kernel⟩
theorem nm_scaled : nmB [0, 1, 2] N_scaled (defScope st_scaled) = true := by decide +kernel
theorem gl_scaled : glB ["made"] (defScope st_scaled) = true := by decide +kernel
noncomputable def b_scaled : Ss → Fl := ((bRet none [] (eCall 2 d_made (aCons (eBin dMul (eBin dIx (eVar 0) (eC (.int 0))) (eVar 1)) (aCons (eBin dMul (eBin dIx (eVar 0) (eC (.int 1))) (eVar 2)) aNil)))))
noncomputable def d_scaled : List D → Kp → Out D := fdef 3 none false b_scaled
theorem H_scaled {m : Mo} (I : InA m fa fn fx fi) : Has m 3 "scaled" ["one", "number", "other"] d_scaled :=
  has_of (N := N_scaled) (cs := none) (cp := false) (b := b_scaled) (d := D_scaled) I 10 18 S_scaled (fun _ _ _ _ _ _ us hl => match us, hl with | [_, _, _], _ => rfl) (fun cdv A outer s H E hg hr tk hp => by
    unfold b_scaled
    exact (ss_one ((st_ret [] (px_callH 0 gl_scaled (H_made I) ⟨rfl, rfl, rfl, rfl, rfl⟩ hg hr (by decide) tk (ax_cons (px_bin op_mulG sd_mul (px_ix (px_var 0 nm_scaled) (px_int)) (px_var 1 nm_scaled)) (ax_cons (px_bin op_mulG sd_mul (px_ix (px_var 0 nm_scaled) (px_int)) (px_var 2 nm_scaled)) ax_nil)))))))
/-! order -/
def N_order : List Str := ["one", "other", "rest"]
theorem S_order : FnScope N_order ["one", "other"] (defScope st_order) := ⟨rfl, rfl, rfl, by decide +kernel, rfl, by decide +kernel, by decide +kernel⟩
theorem nm_order : nmB [0, 1, 2] N_order (defScope st_order) = true := by decide +kernel
theorem sb_order : stB [2] N_order (defScope st_order) = true := by decide +kernel
def b_order : Ss → Fl := (bSeq (bIf none [] ((G.tOr (tBl (eBin dIsN (eVar 0) (eC .non))) (tBl (eBin dIsN (eVar 1) (eC .non))))) ((bRet none [] (eBin dSub (eBin dNotN (eVar 0) (eC .non)) (eBin dNotN (eVar 1) (eC .non))))) bNext) (bSeq (bAsg none [] [2] (tName 2) (eBin dSub (eBin dMul (eBin dIx (eVar 0) (eC (.int 0))) (eBin dIx (eVar 1) (eC (.int 1)))) (eBin dMul (eBin dIx (eVar 1) (eC (.int 0))) (eBin dIx (eVar 0) (eC (.int 1)))))) ((bRet none [] (eBin dSub (eBin dGt (eVar 2) (eC (.int 0))) (eBin dLt (eVar 2) (eC (.int 0))))))))
def d_order : List D → Kp → Out D := fdef 3 none false b_order
theorem H_order {m : Mo} (I : InA m fa fn fx fi) : Has m 1 "order" ["one", "other"] d_order :=
  has_of (N := N_order) (cs := none) (cp := false) (b := b_order) (d := D_order) I 11 19 S_order (fun _ _ _ _ _ _ us hl => match us, hl with | [_, _], _ => rfl) (fun cdv A outer s H E hg hr tk hp => by
    unfold b_order
    exact (ss_cons (st_if [] (tx_w (wx_or (tx_cmp op_isN sd_isN (px_var 0 nm_order) (px_non)) (wx_or1 (tx_cmp op_isN sd_isN (px_var 1 nm_order) (px_non))))) (ss_one ((st_ret [] (px_bin op_subG sd_sub (px_cmp op_notN sd_notN (px_var 0 nm_order) (px_non)) (px_cmp op_notN sd_notN (px_var 1 nm_order) (px_non)))))) ss_nil) (ss_cons (st_set 2 [] sb_order S_order.nd (px_bin op_subG sd_sub (px_bin op_mulG sd_mul (px_ix (px_var 0 nm_order) (px_int)) (px_ix (px_var 1 nm_order) (px_int))) (px_bin op_mulG sd_mul (px_ix (px_var 1 nm_order) (px_int)) (px_ix (px_var 0 nm_order) (px_int))))) (ss_one ((st_ret [] (px_bin op_subG sd_sub (px_cmp op_gt (sd_cmp _) (px_var 2 nm_order) (px_int)) (px_cmp op_lt (sd_cmp _) (px_var 2 nm_order) (px_int)))))))))
/-! greater -/
def N_greater : List Str := ["one", "other"]
theorem S_greater : FnScope N_greater ["one", "other"] (defScope st_greater) := ⟨rfl, rfl, rfl, by decide +kernel, rfl, by decide +kernel, by decide +kernel⟩
theorem nm_greater : nmB [0, 1] N_greater (defScope st_greater) = true := by decide +kernel
theorem gl_greater : glB ["order"] (defScope st_greater) = true := by decide +kernel
def b_greater : Ss → Fl := ((bRet none [] (eIf (tBl (eBin dGe (eCall 2 d_order (aCons (eVar 0) (aCons (eVar 1) aNil))) (eC (.int 0)))) (eVar 0) (eVar 1))))
def d_greater : List D → Kp → Out D := fdef 2 none false b_greater
theorem H_greater {m : Mo} (I : InA m fa fn fx fi) : Has m 2 "greater" ["one", "other"] d_greater :=
  has_of (N := N_greater) (cs := none) (cp := false) (b := b_greater) (d := D_greater) I 12 20 S_greater (fun _ _ _ _ _ _ us hl => match us, hl with | [_, _], _ => rfl) (fun cdv A outer s H E hg hr tk hp => by
    unfold b_greater
    exact (ss_one ((st_ret [] (px_if (tx_cmp op_ge (sd_cmp _) (px_callH 0 gl_greater (H_order I) ⟨rfl, rfl, rfl, rfl, rfl⟩ hg hr (by decide) tk (ax_cons (px_var 0 nm_greater) (ax_cons (px_var 1 nm_greater) ax_nil))) (px_int)) (px_var 0 nm_greater) (px_var 1 nm_greater))))))
/-! joined -/
def N_joined : List Str := ["one", "other"]
theorem S_joined : FnScope N_joined ["one", "other"] (defScope st_joined) := ⟨rfl, rfl, rfl, by decide +kernel, rfl, by decide +kernel, by decide +kernel⟩
theorem nm_joined : nmB [0, 1] N_joined (defScope st_joined) = true := by decide +kernel
theorem gl_joined : glB ["added"] (defScope st_joined) = true := by decide +kernel
noncomputable def b_joined : Ss → Fl := ((bRet none [] (eIf ((G.tOr (tBl (eBin dIsN (eVar 0) (eC .non))) (tBl (eBin dIsN (eVar 1) (eC .non))))) (eC .non) (eCall 2 d_added (aCons (eVar 0) (aCons (eVar 1) aNil))))))
noncomputable def d_joined : List D → Kp → Out D := fdef 2 none false b_joined
theorem H_joined {m : Mo} (I : InA m fa fn fx fi) : Has m 4 "joined" ["one", "other"] d_joined :=
  has_of (N := N_joined) (cs := none) (cp := false) (b := b_joined) (d := D_joined) I 13 21 S_joined (fun _ _ _ _ _ _ us hl => match us, hl with | [_, _], _ => rfl) (fun cdv A outer s H E hg hr tk hp => by
    unfold b_joined
    exact (ss_one ((st_ret [] (px_if (tx_w (wx_or (tx_cmp op_isN sd_isN (px_var 0 nm_joined) (px_non)) (wx_or1 (tx_cmp op_isN sd_isN (px_var 1 nm_joined) (px_non))))) (px_non) (px_callH 0 gl_joined (H_added I) ⟨rfl, rfl, rfl, rfl, rfl⟩ hg hr (by decide) tk (ax_cons (px_var 0 nm_joined) (ax_cons (px_var 1 nm_joined) ax_nil))))))))
/-! less -/
def N_less : List Str := ["one", "other"]
theorem S_less : FnScope N_less ["one", "other"] (defScope st_less) := ⟨rfl, rfl, rfl, by decide +kernel, rfl, by decide +kernel, by decide +kernel⟩
theorem nm_less : nmB [0, 1] N_less (defScope st_less) = true := by decide +kernel
theorem gl_less : glB ["added", "negated"] (defScope st_less) = true := by decide +kernel
noncomputable def b_less : Ss → Fl := ((bRet none [] (eIf (tBl (eBin dIsN (eVar 0) (eC .non))) (eC .non) (eCall 2 d_added (aCons (eVar 0) (aCons (eCall 1 d_negated (aCons (eVar 1) aNil)) aNil))))))
noncomputable def d_less : List D → Kp → Out D := fdef 2 none false b_less
theorem H_less {m : Mo} (I : InA m fa fn fx fi) : Has m 4 "less" ["one", "other"] d_less :=
  has_of (N := N_less) (cs := none) (cp := false) (b := b_less) (d := D_less) I 14 22 S_less (fun _ _ _ _ _ _ us hl => match us, hl with | [_, _], _ => rfl) (fun cdv A outer s H E hg hr tk hp => by
    unfold b_less
    exact (ss_one ((st_ret [] (px_if (tx_cmp op_isN sd_isN (px_var 0 nm_less) (px_non)) (px_non) (px_callH 0 gl_less (H_added I) ⟨rfl, rfl, rfl, rfl, rfl⟩ hg hr (by decide) tk (ax_cons (px_var 0 nm_less) (ax_cons (px_callH 1 gl_less (H_negated I) ⟨rfl, rfl, rfl, rfl, rfl⟩ hg hr (by decide) tk (ax_cons (px_var 1 nm_less) ax_nil)) ax_nil))))))))
/-! weight -/
def N_weight : List Str := ["number", "other"]
theorem S_weight : FnScope N_weight ["number", "other"] (defScope st_weight) := ⟨rfl, rfl, rfl, by decide +kernel, rfl, by decide +kernel, by decide +kernel⟩
theorem nm_weight : nmB [0, 1] N_weight (defScope st_weight) = true := by decide +kernel
theorem gl_weight : glB ["in_range", "MAX_NUMBER", "ArgumentError", "made"] (defScope st_weight) = true := by decide +kernel
noncomputable def b_weight : Ss → Fl := (bSeq (bIf none [] (G.tNot (tTru (eCall 3 d_in_range (aCons (eVar 0) (aCons (eBin dSub (eC (.int 0)) (eC (.int 1000000))) (aCons (eC (.int 1000000)) aNil)))))) (bRaise none [] (eExn (dExn "ArgumentError" ["reason"]) (aCons (eC (.str "number")) aNil))) bNext) (bSeq (bIf none [] ((G.tOr (G.tNot (tTru (eCall 3 d_in_range (aCons (eVar 1) (aCons (eBin dSub (eC (.int 0)) (eC (.int 1000000))) (aCons (eC (.int 1000000)) aNil)))))) (tBl (eBin dEq (eVar 1) (eC (.int 0)))))) (bRaise none [] (eExn (dExn "ArgumentError" ["reason"]) (aCons (eC (.str "other")) aNil))) bNext) ((bRet none [] (eCall 2 d_made (aCons (eVar 0) (aCons (eVar 1) aNil)))))))
noncomputable def d_weight : List D → Kp → Out D := fdef 2 none false b_weight
theorem H_weight {m : Mo} (I : InA m fa fn fx fi) : Has m 3 "weight" ["number", "other"] d_weight :=
  has_of (N := N_weight) (cs := none) (cp := false) (b := b_weight) (d := D_weight) I 15 23 S_weight (fun _ _ _ _ _ _ us hl => match us, hl with | [_, _], _ => rfl) (fun cdv A outer s H E hg hr tk hp => by
    unfold b_weight
    exact (ss_cons (st_if [] (tx_not (tx_tru (px_callH 0 gl_weight (H_in_range I) ⟨rfl, rfl, rfl, rfl, rfl⟩ hg hr (by decide) tk (ax_cons (px_var 0 nm_weight) (ax_cons (px_bin op_subG sd_sub (px_int) (px_glob 1 gl_weight (I.int 11))) (ax_cons (px_glob 1 gl_weight (I.int 11)) ax_nil)))))) (ss_one (st_raise [] rfl tk (mx_1 2 gl_weight (M_ArgumentError I) ⟨rfl, rfl, rfl, rfl, rfl⟩ hr (by decide) (ax_cons (px_str) ax_nil)))) ss_nil) (ss_cons (st_if [] (tx_w (wx_or (tx_not (tx_tru (px_callH 0 gl_weight (H_in_range I) ⟨rfl, rfl, rfl, rfl, rfl⟩ hg hr (by decide) tk (ax_cons (px_var 1 nm_weight) (ax_cons (px_bin op_subG sd_sub (px_int) (px_glob 1 gl_weight (I.int 11))) (ax_cons (px_glob 1 gl_weight (I.int 11)) ax_nil)))))) (wx_or1 (tx_cmp (op_eqD hr.units) sd_eq (px_var 1 nm_weight) (px_int))))) (ss_one (st_raise [] rfl tk (mx_1 2 gl_weight (M_ArgumentError I) ⟨rfl, rfl, rfl, rfl, rfl⟩ hr (by decide) (ax_cons (px_str) ax_nil)))) ss_nil) (ss_one ((st_ret [] (px_callH 3 gl_weight (H_made I) ⟨rfl, rfl, rfl, rfl, rfl⟩ hg hr (by decide) tk (ax_cons (px_var 0 nm_weight) (ax_cons (px_var 1 nm_weight) ax_nil)))))))))
/-! demand_two -/
def N_demand_two : List Str := ["one", "other"]
theorem S_demand_two : FnScope N_demand_two ["one", "other"] (defScope st_demand_two) := ⟨rfl, rfl, rfl, by decide +kernel, rfl, by decide +kernel, by decide +kernel⟩
theorem nm_demand_two : nmB [0, 1] N_demand_two (defScope st_demand_two) = true := by decide +kernel
theorem gl_demand_two : glB ["demand_weight"] (defScope st_demand_two) = true := by decide +kernel
noncomputable def b_demand_two : Ss → Fl := (bSeq (bExpr none [] (eCall 2 d_demand_weight (aCons (eVar 0) (aCons (eC (.str "one")) aNil)))) (bExpr none [] (eCall 2 d_demand_weight (aCons (eVar 1) (aCons (eC (.str "other")) aNil)))))
noncomputable def d_demand_two : List D → Kp → Out D := fdef 2 none false b_demand_two
theorem H_demand_two {m : Mo} (I : InA m fa fn fx fi) : Has m 6 "demand_two" ["one", "other"] d_demand_two :=
  has_of (N := N_demand_two) (cs := none) (cp := false) (b := b_demand_two) (d := D_demand_two) I 16 24 S_demand_two (fun _ _ _ _ _ _ us hl => match us, hl with | [_, _], _ => rfl) (fun cdv A outer s H E hg hr tk hp => by
    unfold b_demand_two
    exact (ss_cons (st_expr [] (px_callH 0 gl_demand_two (H_demand_weight I) ⟨rfl, rfl, rfl, rfl, rfl⟩ hg hr (by decide) tk (ax_cons (px_var 0 nm_demand_two) (ax_cons (px_str) ax_nil)))) (ss_one (st_expr [] (px_callH 0 gl_demand_two (H_demand_weight I) ⟨rfl, rfl, rfl, rfl, rfl⟩ hg hr (by decide) tk (ax_cons (px_var 1 nm_demand_two) (ax_cons (px_str) ax_nil)))))))
/-! plus -/
def N_plus : List Str := ["one", "other"]
theorem S_plus : FnScope N_plus ["one", "other"] (defScope st_plus) := ⟨rfl, rfl, rfl, by decide +kernel, rfl, by decide +kernel, by decide +kernel⟩
theorem nm_plus : nmB [0, 1] N_plus (defScope st_plus) = true := by decide +kernel
theorem gl_plus : glB ["demand_two", "greater"] (defScope st_plus) = true := by decide +kernel
noncomputable def b_plus : Ss → Fl := (bSeq (bExpr none [] (eCall 2 d_demand_two (aCons (eVar 0) (aCons (eVar 1) aNil)))) ((bRet none [] (eCall 2 d_greater (aCons (eVar 0) (aCons (eVar 1) aNil))))))
noncomputable def d_plus : List D → Kp → Out D := fdef 2 none false b_plus
theorem H_plus {m : Mo} (I : InA m fa fn fx fi) : Has m 7 "plus" ["one", "other"] d_plus :=
  has_of (N := N_plus) (cs := none) (cp := false) (b := b_plus) (d := D_plus) I 17 25 S_plus (fun _ _ _ _ _ _ us hl => match us, hl with | [_, _], _ => rfl) (fun cdv A outer s H E hg hr tk hp => by
    unfold b_plus
    exact (ss_cons (st_expr [] (px_callH 0 gl_plus (H_demand_two I) ⟨rfl, rfl, rfl, rfl, rfl⟩ hg hr (by decide) tk (ax_cons (px_var 0 nm_plus) (ax_cons (px_var 1 nm_plus) ax_nil)))) (ss_one ((st_ret [] (px_callH 1 gl_plus (H_greater I) ⟨rfl, rfl, rfl, rfl, rfl⟩ hg hr (by decide) tk (ax_cons (px_var 0 nm_plus) (ax_cons (px_var 1 nm_plus) ax_nil))))))))
/-! times -/
def N_times : List Str := ["one", "other"]
theorem S_times : FnScope N_times ["one", "other"] (defScope st_times) := ⟨rfl, rfl, rfl, by decide +kernel, rfl, by decide +kernel, by decide +kernel⟩
theorem nm_times : nmB [0, 1] N_times (defScope st_times) = true := by decide +kernel
theorem gl_times : glB ["demand_two", "joined"] (defScope st_times) = true := by decide +kernel
noncomputable def b_times : Ss → Fl := (bSeq (bExpr none [] (eCall 2 d_demand_two (aCons (eVar 0) (aCons (eVar 1) aNil)))) ((bRet none [] (eCall 2 d_joined (aCons (eVar 0) (aCons (eVar 1) aNil))))))
noncomputable def d_times : List D → Kp → Out D := fdef 2 none false b_times
theorem H_times {m : Mo} (I : InA m fa fn fx fi) : Has m 7 "times" ["one", "other"] d_times :=
  has_of (N := N_times) (cs := none) (cp := false) (b := b_times) (d := D_times) I 18 26 S_times (fun _ _ _ _ _ _ us hl => match us, hl with | [_, _], _ => rfl) (fun cdv A outer s H E hg hr tk hp => by
    unfold b_times
    exact (ss_cons (st_expr [] (px_callH 0 gl_times (H_demand_two I) ⟨rfl, rfl, rfl, rfl, rfl⟩ hg hr (by decide) tk (ax_cons (px_var 0 nm_times) (ax_cons (px_var 1 nm_times) ax_nil)))) (ss_one ((st_ret [] (px_callH 1 gl_times (H_joined I) ⟨rfl, rfl, rfl, rfl, rfl⟩ hg hr (by decide) tk (ax_cons (px_var 0 nm_times) (ax_cons (px_var 1 nm_times) ax_nil))))))))
/-! over -/
def N_over : List Str := ["one", "other"]
theorem S_over : FnScope N_over ["one", "other"] (defScope st_over) := ⟨rfl, rfl, rfl, by decide +kernel, rfl, by decide +kernel, by decide +kernel⟩
theorem nm_over : nmB [0, 1] N_over (defScope st_over) = true := by decide +kernel
theorem gl_over : glB ["demand_two", "ArgumentError", "less"] (defScope st_over) = true := by decide +kernel
noncomputable def b_over : Ss → Fl := (bSeq (bExpr none [] (eCall 2 d_demand_two (aCons (eVar 0) (aCons (eVar 1) aNil)))) (bSeq (bIf none [] (tBl (eBin dIsN (eVar 1) (eC .non))) (bRaise none [] (eExn (dExn "ArgumentError" ["reason"]) (aCons (eC (.str "other")) aNil))) bNext) ((bRet none [] (eCall 2 d_less (aCons (eVar 0) (aCons (eVar 1) aNil)))))))
noncomputable def d_over : List D → Kp → Out D := fdef 2 none false b_over
theorem H_over {m : Mo} (I : InA m fa fn fx fi) : Has m 7 "over" ["one", "other"] d_over :=
  has_of (N := N_over) (cs := none) (cp := false) (b := b_over) (d := D_over) I 19 27 S_over (fun _ _ _ _ _ _ us hl => match us, hl with | [_, _], _ => rfl) (fun cdv A outer s H E hg hr tk hp => by
    unfold b_over
    exact (ss_cons (st_expr [] (px_callH 0 gl_over (H_demand_two I) ⟨rfl, rfl, rfl, rfl, rfl⟩ hg hr (by decide) tk (ax_cons (px_var 0 nm_over) (ax_cons (px_var 1 nm_over) ax_nil)))) (ss_cons (st_if [] (tx_cmp op_isN sd_isN (px_var 1 nm_over) (px_non)) (ss_one (st_raise [] rfl tk (mx_1 1 gl_over (M_ArgumentError I) ⟨rfl, rfl, rfl, rfl, rfl⟩ hr (by decide) (ax_cons (px_str) ax_nil)))) ss_nil) (ss_one ((st_ret [] (px_callH 2 gl_over (H_less I) ⟨rfl, rfl, rfl, rfl, rfl⟩ hg hr (by decide) tk (ax_cons (px_var 0 nm_over) (ax_cons (px_var 1 nm_over) ax_nil)))))))))
/-! compare -/
def N_compare : List Str := ["one", "other"]
theorem S_compare : FnScope N_compare ["one", "other"] (defScope st_compare) := ⟨rfl, rfl, rfl, by decide +kernel, rfl, by decide +kernel, by decide +kernel⟩
theorem nm_compare : nmB [0, 1] N_compare (defScope st_compare) = true := by decide +kernel
theorem gl_compare : glB ["demand_two", "order"] (defScope st_compare) = true := by decide +kernel
noncomputable def b_compare : Ss → Fl := (bSeq (bExpr none [] (eCall 2 d_demand_two (aCons (eVar 0) (aCons (eVar 1) aNil)))) ((bRet none [] (eCall 2 d_order (aCons (eVar 0) (aCons (eVar 1) aNil))))))
noncomputable def d_compare : List D → Kp → Out D := fdef 2 none false b_compare
theorem H_compare {m : Mo} (I : InA m fa fn fx fi) : Has m 7 "compare" ["one", "other"] d_compare :=
  has_of (N := N_compare) (cs := none) (cp := false) (b := b_compare) (d := D_compare) I 20 28 S_compare (fun _ _ _ _ _ _ us hl => match us, hl with | [_, _], _ => rfl) (fun cdv A outer s H E hg hr tk hp => by
    unfold b_compare
    exact (ss_cons (st_expr [] (px_callH 0 gl_compare (H_demand_two I) ⟨rfl, rfl, rfl, rfl, rfl⟩ hg hr (by decide) tk (ax_cons (px_var 0 nm_compare) (ax_cons (px_var 1 nm_compare) ax_nil)))) (ss_one ((st_ret [] (px_callH 1 gl_compare (H_order I) ⟨rfl, rfl, rfl, rfl, rfl⟩ hg hr (by decide) tk (ax_cons (px_var 0 nm_compare) (ax_cons (px_var 1 nm_compare) ax_nil))))))))
/-! raised -/
def N_raised : List Str := ["one", "count"]
theorem S_raised : FnScope N_raised ["one", "count"] (defScope st_raised) := ⟨rfl, rfl, rfl, by decide +kernel, rfl, by decide +kernel, by decide +kernel⟩
theorem nm_raised : nmB [0, 1] N_raised (defScope st_raised) = true := by decide +kernel
theorem gl_raised : glB ["demand_weight", "in_range", "MAX_NUMBER", "ArgumentError", "ZERO", "scaled"] (defScope st_raised) = true := by decide +kernel
noncomputable def b_raised : Ss → Fl := (bSeq (bExpr none [] (eCall 2 d_demand_weight (aCons (eVar 0) (aCons (eC (.str "one")) aNil)))) (bSeq (bIf none [] ((G.tOr (G.tNot (tTru (eCall 3 d_in_range (aCons (eVar 1) (aCons (eBin dSub (eC (.int 0)) (eC (.int 1000000))) (aCons (eC (.int 1000000)) aNil)))))) ((G.tAnd (tBl (eBin dIsN (eVar 0) (eC .non))) (tBl (eBin dLt (eVar 1) (eC (.int 0)))))))) (bRaise none [] (eExn (dExn "ArgumentError" ["reason"]) (aCons (eC (.str "count")) aNil))) bNext) (bSeq (bIf none [] (tBl (eBin dIsN (eVar 0) (eC .non))) ((bRet none [] (eIf (tBl (eBin dEq (eVar 1) (eC (.int 0)))) (eC (.tup [.int 0, .int 1])) (eC .non)))) bNext) ((bRet none [] (eCall 3 d_scaled (aCons (eVar 0) (aCons (eVar 1) (aCons (eC (.int 1)) aNil)))))))))
noncomputable def d_raised : List D → Kp → Out D := fdef 2 none false b_raised
theorem H_raised {m : Mo} (I : InA m fa fn fx fi) : Has m 6 "raised" ["one", "count"] d_raised :=
  has_of (N := N_raised) (cs := none) (cp := false) (b := b_raised) (d := D_raised) I 21 29 S_raised (fun _ _ _ _ _ _ us hl => match us, hl with | [_, _], _ => rfl) (fun cdv A outer s H E hg hr tk hp => by
    unfold b_raised
    exact (ss_cons (st_expr [] (px_callH 0 gl_raised (H_demand_weight I) ⟨rfl, rfl, rfl, rfl, rfl⟩ hg hr (by decide) tk (ax_cons (px_var 0 nm_raised) (ax_cons (px_str) ax_nil)))) (ss_cons (st_if [] (tx_w (wx_or (tx_not (tx_tru (px_callH 1 gl_raised (H_in_range I) ⟨rfl, rfl, rfl, rfl, rfl⟩ hg hr (by decide) tk (ax_cons (px_var 1 nm_raised) (ax_cons (px_bin op_subG sd_sub (px_int) (px_glob 2 gl_raised (I.int 11))) (ax_cons (px_glob 2 gl_raised (I.int 11)) ax_nil)))))) (wx_or1 (tx_w (wx_and (tx_cmp op_isN sd_isN (px_var 0 nm_raised) (px_non)) (wx_and1 (tx_cmp op_lt (sd_cmp _) (px_var 1 nm_raised) (px_int)))))))) (ss_one (st_raise [] rfl tk (mx_1 3 gl_raised (M_ArgumentError I) ⟨rfl, rfl, rfl, rfl, rfl⟩ hr (by decide) (ax_cons (px_str) ax_nil)))) ss_nil) (ss_cons (st_if [] (tx_cmp op_isN sd_isN (px_var 0 nm_raised) (px_non)) (ss_one ((st_ret [] (px_if (tx_cmp (op_eqD hr.units) sd_eq (px_var 1 nm_raised) (px_int)) (px_glob 4 gl_raised (I.tupI 0 (ns := [0, 1]))) (px_non))))) ss_nil) (ss_one ((st_ret [] (px_callH 5 gl_raised (H_scaled I) ⟨rfl, rfl, rfl, rfl, rfl⟩ hg hr (by decide) tk (ax_cons (px_var 0 nm_raised) (ax_cons (px_var 1 nm_raised) (ax_cons (px_int) ax_nil)))))))))))
/-! root -/
def N_root : List Str := ["one", "count"]
theorem S_root : FnScope N_root ["one", "count"] (defScope st_root) := ⟨rfl, rfl, rfl, by decide +kernel, rfl, by decide +kernel, by decide +kernel⟩
theorem nm_root : nmB [0, 1] N_root (defScope st_root) = true := by decide +kernel
theorem gl_root : glB ["demand_weight", "in_range", "MAX_NUMBER", "ArgumentError", "scaled"] (defScope st_root) = true := by decide +kernel
noncomputable def b_root : Ss → Fl := (bSeq (bExpr none [] (eCall 2 d_demand_weight (aCons (eVar 0) (aCons (eC (.str "one")) aNil)))) (bSeq (bIf none [] (G.tNot (tTru (eCall 3 d_in_range (aCons (eVar 1) (aCons (eC (.int 1)) (aCons (eC (.int 1000000)) aNil)))))) (bRaise none [] (eExn (dExn "ArgumentError" ["reason"]) (aCons (eC (.str "count")) aNil))) bNext) ((bRet none [] (eIf (tBl (eBin dIsN (eVar 0) (eC .non))) (eC .non) (eCall 3 d_scaled (aCons (eVar 0) (aCons (eC (.int 1)) (aCons (eVar 1) aNil)))))))))
noncomputable def d_root : List D → Kp → Out D := fdef 2 none false b_root
theorem H_root {m : Mo} (I : InA m fa fn fx fi) : Has m 6 "root" ["one", "count"] d_root :=
  has_of (N := N_root) (cs := none) (cp := false) (b := b_root) (d := D_root) I 22 30 S_root (fun _ _ _ _ _ _ us hl => match us, hl with | [_, _], _ => rfl) (fun cdv A outer s H E hg hr tk hp => by
    unfold b_root
    exact (ss_cons (st_expr [] (px_callH 0 gl_root (H_demand_weight I) ⟨rfl, rfl, rfl, rfl, rfl⟩ hg hr (by decide) tk (ax_cons (px_var 0 nm_root) (ax_cons (px_str) ax_nil)))) (ss_cons (st_if [] (tx_not (tx_tru (px_callH 1 gl_root (H_in_range I) ⟨rfl, rfl, rfl, rfl, rfl⟩ hg hr (by decide) tk (ax_cons (px_var 1 nm_root) (ax_cons (px_int) (ax_cons (px_glob 2 gl_root (I.int 11)) ax_nil)))))) (ss_one (st_raise [] rfl tk (mx_1 3 gl_root (M_ArgumentError I) ⟨rfl, rfl, rfl, rfl, rfl⟩ hr (by decide) (ax_cons (px_str) ax_nil)))) ss_nil) (ss_one ((st_ret [] (px_if (tx_cmp op_isN sd_isN (px_var 0 nm_root) (px_non)) (px_non) (px_callH 4 gl_root (H_scaled I) ⟨rfl, rfl, rfl, rfl, rfl⟩ hg hr (by decide) tk (ax_cons (px_var 0 nm_root) (ax_cons (px_int) (ax_cons (px_var 1 nm_root) ax_nil)))))))))))
/-! is_row -/
def N_is_row : List Str := ["value", "least", "most", "one"]
theorem S_is_row : FnScope N_is_row ["value", "least", "most"] (defScope st_is_row) := ⟨rfl, rfl, rfl, by decide +kernel, rfl, by decide +kernel, by decide +kernel⟩
theorem nm_is_row : nmB [0, 1, 2] N_is_row (defScope st_is_row) = true := by decide +kernel
theorem gl_is_row : glB ["isinstance", "tuple", "len", "all"] (defScope st_is_row) = true := by decide +kernel
def cs_is_row_1 : Scope := kC (kE 1 (kV (kS 1 (st_is_row))))
theorem bk_is_row_1 : blkC N_is_row (defScope st_is_row) cs_is_row_1 [("one", 3)] = true := by decide +kernel
theorem nm_is_row_1 : nmB [3] N_is_row (relS cs_is_row_1 (defScope st_is_row)) = true := by decide +kernel
theorem lc_is_row_1 : lcB [3] N_is_row (relS cs_is_row_1 (defScope st_is_row)) = true := by decide +kernel
theorem gl_is_row_1 : glB ["is_small_weight"] (relS cs_is_row_1 (defScope st_is_row)) = true := by decide +kernel
noncomputable def b_is_row : Ss → Fl := (bSeq (bIf none [] ((G.tOr (G.tNot (tTru (eUn (fun d => dIsi "tuple" [d]) (eVar 0)))) (G.tNot (tBl (eChain dLe dLe (eVar 1) (eArgs dLen (aCons (eVar 0) aNil)) (eVar 2)))))) ((bRet none [] (eC (.bl false)))) bNext) ((bRet none [] (eArgs dAll (aCons (eLst (eComp [3] (tName 3) (iOf (eVar 0)) mTrue (eCall 1 d_is_small_weight (aCons (eVar 3) aNil)))) aNil)))))
noncomputable def d_is_row : List D → Kp → Out D := fdef 4 none false b_is_row
theorem H_is_row {m : Mo} (I : InA m fa fn fx fi) : Has m 5 "is_row" ["value", "least", "most"] d_is_row :=
  has_of (N := N_is_row) (cs := none) (cp := false) (b := b_is_row) (d := D_is_row) I 23 31 S_is_row (fun _ _ _ _ _ _ us hl => match us, hl with | [_, _, _], _ => rfl) (fun cdv A outer s H E hg hr tk hp => by
    unfold b_is_row
    exact (ss_cons (st_if [] (tx_w (wx_or (tx_not (tx_tru (px_isi 0 1 gl_is_row (px_var 0 nm_is_row) (I.free 0) (I.free 7) bb_isinstance bb_tuple))) (wx_or1 (tx_not (tx_chain op_le op_le (sd_cmp _) (sd_cmp _) (px_var 1 nm_is_row) (px_blt 2 gl_is_row call_lenG sd_len (I.free 8) bb_len (ax_cons (px_var 0 nm_is_row) ax_nil)) (px_var 2 nm_is_row)))))) (ss_one ((st_ret [] (px_bl)))) ss_nil) (ss_one ((st_ret [] (px_blt 3 gl_is_row (cr_all rfl) sd_all (I.free 9) bb_all (ax_cons (px_lc (lx_0 (own := [("one", 3)]) (by rfl) (ix_any (px_var 0 nm_is_row)) (fun _ => (gx_name 3 lc_is_row_1 S_is_row.nd)) (fun _ => (px_callH 0 gl_is_row_1 (H_is_small_weight I) ⟨rfl, rfl, rfl, rfl, rfl⟩ hg hr (by decide) takes_none5 (ax_cons (px_var 3 nm_is_row_1) ax_nil)))) (blkOk_by bk_is_row_1) S_is_row.nd rfl) ax_nil)))))))
/-! demand_row -/
def N_demand_row : List Str := ["value", "size", "reason"]
theorem S_demand_row : FnScope N_demand_row ["value", "size", "reason"] (defScope st_demand_row) := ⟨rfl, rfl, rfl, by decide +kernel, rfl, by decide +kernel, by decide +kernel⟩
theorem nm_demand_row : nmB [0, 1, 2] N_demand_row (defScope st_demand_row) = true := by decide +kernel
theorem gl_demand_row : glB ["is_row", "ArgumentError"] (defScope st_demand_row) = true := by decide +kernel
noncomputable def b_demand_row : Ss → Fl := (bIf none [] (G.tNot (tTru (eCall 3 d_is_row (aCons (eVar 0) (aCons (eVar 1) (aCons (eVar 1) aNil)))))) (bRaise none [] (eExn (dExn "ArgumentError" ["reason"]) (aCons (eVar 2) aNil))) bNext)
noncomputable def d_demand_row : List D → Kp → Out D := fdef 3 none false b_demand_row
theorem H_demand_row {m : Mo} (I : InA m fa fn fx fi) : Has m 6 "demand_row" ["value", "size", "reason"] d_demand_row :=
  has_of (N := N_demand_row) (cs := none) (cp := false) (b := b_demand_row) (d := D_demand_row) I 24 32 S_demand_row (fun _ _ _ _ _ _ us hl => match us, hl with | [_, _, _], _ => rfl) (fun cdv A outer s H E hg hr tk hp => by
    unfold b_demand_row
    exact (ss_one (st_if [] (tx_not (tx_tru (px_callH 0 gl_demand_row (H_is_row I) ⟨rfl, rfl, rfl, rfl, rfl⟩ hg hr (by decide) tk (ax_cons (px_var 0 nm_demand_row) (ax_cons (px_var 1 nm_demand_row) (ax_cons (px_var 1 nm_demand_row) ax_nil)))))) (ss_one (st_raise [] rfl tk (mx_1 1 gl_demand_row (M_ArgumentError I) ⟨rfl, rfl, rfl, rfl, rfl⟩ hr (by decide) (ax_cons (px_var 2 nm_demand_row) ax_nil)))) ss_nil)))
/-! shift_of -/
def N_shift_of : List Str := ["row", "other", "found", "part", "own", "step"]
theorem S_shift_of : FnScope N_shift_of ["row", "other"] (defScope st_shift_of) := ⟨rfl, rfl, rfl, by decide +kernel, rfl, by decide +kernel, by decide +kernel⟩
theorem nm_shift_of : nmB [0, 1, 2, 3, 4, 5] N_shift_of (defScope st_shift_of) = true := by decide +kernel
theorem lc_shift_of : lcB [3, 4] N_shift_of (defScope st_shift_of) = true := by decide +kernel
theorem sb_shift_of : stB [2, 5] N_shift_of (defScope st_shift_of) = true := by decide +kernel
theorem gl_shift_of : glB ["zip", "added", "negated"] (defScope st_shift_of) = true := by decide +kernel
noncomputable def l1_shift_of : Ss → Fl := (bSeq (bIf none [] (tBl (eBin dNe (eBin dIsN (eVar 3) (eC .non)) (eBin dIsN (eVar 4) (eC .non)))) ((bRet none [] (eC .non))) bNext) (bIf none [] (tBl (eBin dNotN (eVar 3) (eC .non))) (bSeq (bAsg none [] [5] (tName 5) (eCall 2 d_added (aCons (eVar 4) (aCons (eCall 1 d_negated (aCons (eVar 3) aNil)) aNil)))) (bSeq (bIf none [] ((G.tAnd (tBl (eBin dNotN (eVar 2) (eC .non))) (tBl (eBin dNe (eVar 2) (eVar 5))))) ((bRet none [] (eC .non))) bNext) (bAsg none [] [2] (tName 2) (eVar 5)))) bNext))
noncomputable def b_shift_of : Ss → Fl := (bSeq (bAsg none [] [2] (tName 2) (eC .non)) (bSeq ((bFor none [3, 4] (tTup 2 (tsCons (tName 3) (tsCons (tName 4) tsNil))) (iArgs dZip (aCons (eVar 0) (aCons (eVar 1) aNil))) l1_shift_of)) ((bRet none [] (eVar 2)))))
noncomputable def d_shift_of : List D → Kp → Out D := fdef 6 none false b_shift_of
theorem H_shift_of {m : Mo} (I : InA m fa fn fx fi) : Has m 4 "shift_of" ["row", "other"] d_shift_of :=
  has_of (N := N_shift_of) (cs := none) (cp := false) (b := b_shift_of) (d := D_shift_of) I 25 34 S_shift_of (fun _ _ _ _ _ _ us hl => match us, hl with | [_, _], _ => rfl) (fun cdv A outer s H E hg hr tk hp => by
    unfold b_shift_of
    exact (ss_cons (st_set 2 [] sb_shift_of S_shift_of.nd (px_non)) (ss_cons ((st_for (vs := [3, 4]) hp rfl (ix_zip 0 gl_shift_of (I.free 33) (ax_cons (px_var 0 nm_shift_of) (ax_cons (px_var 1 nm_shift_of) ax_nil))) (gx_tup rfl (gsx_cons (gx_name 3 lc_shift_of S_shift_of.nd) (gsx_cons (gx_name 4 lc_shift_of S_shift_of.nd) gsx_nil))) (ss_cons (st_if [] (tx_cmp (op_neD hr.units) sd_ne (px_cmp op_isN sd_isN (px_var 3 nm_shift_of) (px_non)) (px_cmp op_isN sd_isN (px_var 4 nm_shift_of) (px_non))) (ss_one ((st_ret [] (px_non)))) ss_nil) (ss_one (st_if [] (tx_cmp op_notN sd_notN (px_var 3 nm_shift_of) (px_non)) (ss_cons (st_set 5 [] sb_shift_of S_shift_of.nd (px_callH 1 gl_shift_of (H_added I) ⟨rfl, rfl, rfl, rfl, rfl⟩ hg hr (by decide) tk (ax_cons (px_var 4 nm_shift_of) (ax_cons (px_callH 2 gl_shift_of (H_negated I) ⟨rfl, rfl, rfl, rfl, rfl⟩ hg hr (by decide) tk (ax_cons (px_var 3 nm_shift_of) ax_nil)) ax_nil)))) (ss_cons (st_if [] (tx_w (wx_and (tx_cmp op_notN sd_notN (px_var 2 nm_shift_of) (px_non)) (wx_and1 (tx_cmp (op_neD hr.units) sd_ne (px_var 2 nm_shift_of) (px_var 5 nm_shift_of))))) (ss_one ((st_ret [] (px_non)))) ss_nil) (ss_one (st_set 2 [] sb_shift_of S_shift_of.nd (px_var 5 nm_shift_of))))) ss_nil))))) (ss_one ((st_ret [] (px_var 2 nm_shift_of)))))))
/-! shift_between -/
def N_shift_between : List Str := ["row", "other", "part"]
theorem S_shift_between : FnScope N_shift_between ["row", "other"] (defScope st_shift_between) := ⟨rfl, rfl, rfl, by decide +kernel, rfl, by decide +kernel, by decide +kernel⟩
theorem nm_shift_between : nmB [0, 1] N_shift_between (defScope st_shift_between) = true := by decide +kernel
theorem gl_shift_between : glB ["is_row", "all", "ArgumentError", "demand_row", "len", "shift_of"] (defScope st_shift_between) = true := by decide +kernel
def cs_shift_between_1 : Scope := kC (kE 1 (kE 1 (kV (kS 0 (st_shift_between)))))
theorem bk_shift_between_1 : blkC N_shift_between (defScope st_shift_between) cs_shift_between_1 [("part", 2)] = true := by decide +kernel
theorem nm_shift_between_1 : nmB [2] N_shift_between (relS cs_shift_between_1 (defScope st_shift_between)) = true := by decide +kernel
theorem lc_shift_between_1 : lcB [2] N_shift_between (relS cs_shift_between_1 (defScope st_shift_between)) = true := by decide +kernel
noncomputable def b_shift_between : Ss → Fl := (bSeq (bIf none [] ((G.tOr (G.tNot (tTru (eCall 3 d_is_row (aCons (eVar 0) (aCons (eC (.int 1)) (aCons (eC (.int 64)) aNil)))))) (tTru (eArgs dAll (aCons (eLst (eComp [2] (tName 2) (iOf (eVar 0)) mTrue (eBin dIsN (eVar 2) (eC .non)))) aNil))))) (bRaise none [] (eExn (dExn "ArgumentError" ["reason"]) (aCons (eC (.str "row")) aNil))) bNext) (bSeq (bExpr none [] (eCall 3 d_demand_row (aCons (eVar 1) (aCons (eArgs dLen (aCons (eVar 0) aNil)) (aCons (eC (.str "other")) aNil))))) ((bRet none [] (eCall 2 d_shift_of (aCons (eVar 0) (aCons (eVar 1) aNil)))))))
noncomputable def d_shift_between : List D → Kp → Out D := fdef 3 none false b_shift_between
theorem H_shift_between {m : Mo} (I : InA m fa fn fx fi) : Has m 7 "shift_between" ["row", "other"] d_shift_between :=
  has_of (N := N_shift_between) (cs := none) (cp := false) (b := b_shift_between) (d := D_shift_between) I 26 35 S_shift_between (fun _ _ _ _ _ _ us hl => match us, hl with | [_, _], _ => rfl) (fun cdv A outer s H E hg hr tk hp => by
    unfold b_shift_between
    exact (ss_cons (st_if [] (tx_w (wx_or (tx_not (tx_tru (px_callH 0 gl_shift_between (H_is_row I) ⟨rfl, rfl, rfl, rfl, rfl⟩ hg hr (by decide) tk (ax_cons (px_var 0 nm_shift_between) (ax_cons (px_int) (ax_cons (px_int) ax_nil)))))) (wx_or1 (tx_tru (px_blt 1 gl_shift_between (cr_all rfl) sd_all (I.free 9) bb_all (ax_cons (px_lc (lx_0 (own := [("part", 2)]) (by rfl) (ix_any (px_var 0 nm_shift_between)) (fun _ => (gx_name 2 lc_shift_between_1 S_shift_between.nd)) (fun _ => (px_cmp op_isN sd_isN (px_var 2 nm_shift_between_1) (px_non)))) (blkOk_by bk_shift_between_1) S_shift_between.nd rfl) ax_nil)))))) (ss_one (st_raise [] rfl tk (mx_1 2 gl_shift_between (M_ArgumentError I) ⟨rfl, rfl, rfl, rfl, rfl⟩ hr (by decide) (ax_cons (px_str) ax_nil)))) ss_nil) (ss_cons (st_expr [] (px_callH 3 gl_shift_between (H_demand_row I) ⟨rfl, rfl, rfl, rfl, rfl⟩ hg hr (by decide) tk (ax_cons (px_var 1 nm_shift_between) (ax_cons (px_blt 4 gl_shift_between call_lenG sd_len (I.free 8) bb_len (ax_cons (px_var 0 nm_shift_between) ax_nil)) (ax_cons (px_str) ax_nil))))) (ss_one ((st_ret [] (px_callH 5 gl_shift_between (H_shift_of I) ⟨rfl, rfl, rfl, rfl, rfl⟩ hg hr (by decide) tk (ax_cons (px_var 0 nm_shift_between) (ax_cons (px_var 1 nm_shift_between) ax_nil)))))))))
/-! _law_draws -/
def N__law_draws : List Str := ["script", "draws", "cell", "rest", "k", "mixed"]
theorem S__law_draws : FnScope N__law_draws ["script"] (defScope st__law_draws) := ⟨rfl, rfl, rfl, by decide +kernel, rfl, by decide +kernel, by decide +kernel⟩
theorem nm__law_draws : nmB [0, 1, 2, 3, 4, 5] N__law_draws (defScope st__law_draws) = true := by decide +kernel
theorem lc__law_draws : lcB [2, 4] N__law_draws (defScope st__law_draws) = true := by decide +kernel
theorem sb__law_draws : stB [1, 3, 5] N__law_draws (defScope st__law_draws) = true := by decide +kernel
theorem gl__law_draws : glB ["abs", "range", "int"] (defScope st__law_draws) = true := by decide +kernel
def l1__law_draws : Ss → Fl := (bIf none [] (tBl (eBin dGt (eVar 3) (eC (.int 0)))) (bSeq (bApp none [] 1 (eBin dMod (eArgs dIntOf (aCons (eVar 3) aNil)) (eC (.int 1009)))) (bAsg none [] [3] (tName 3) (eBin dDiv (eVar 3) (eC (.int 1009))))) bNext)
def l2__law_draws : Ss → Fl := (bSeq (bAsg none [] [5] (tName 5) (eBin dMod (eArgs dIntOf (aCons (eBin dAdd (eBin dAdd (eBin dMul (eVar 5) (eC (.int 16807))) (eBin dMul (eC (.int 69621)) (eVar 4))) (eC (.int 5))) aNil)) (eC (.int 2147483629)))) (bApp none [] 1 (eBin dDiv (eVar 5) (eC (.int 1009)))))
def l3__law_draws : Ss → Fl := (bSeq (bAsg none [] [3] (tName 3) (eArgs dAbs (aCons (eVar 2) aNil))) (bIf none [] (tBl (eBin dGe (eVar 3) (eBin dPow (eC (.int 10)) (eC (.int 18))))) ((bFor none [4] (tName 4) (iArgs dRange1 (aCons (eC (.int 60)) aNil)) l1__law_draws)) (bSeq (bAsg none [] [5] (tName 5) (eBin dMod (eArgs dIntOf (aCons (eBin dAdd (eBin dMul (eVar 3) (eC (.int 48271))) (eC (.int 11))) aNil)) (eC (.int 2147483647)))) ((bFor none [4] (tName 4) (iArgs dRange1 (aCons (eC (.int 12)) aNil)) l2__law_draws)))))
def b__law_draws : Ss → Fl := (bSeq (bOwn none [] 1 (aFree aNil)) (bSeq ((bFor none [2] (tName 2) (iOf (eSl (eVar 0) pNone (pSome (eC (.int 63))))) l3__law_draws)) (bFix 1 ((bRet none [] (eVar 1))))))
def d__law_draws : List D → Kp → Out D := fdef 6 none false b__law_draws
theorem H__law_draws {m : Mo} (I : InA m fa fn fx fi) : Has m 1 "_law_draws" ["script"] d__law_draws :=
  has_of (N := N__law_draws) (cs := none) (cp := false) (b := b__law_draws) (d := D__law_draws) I 27 37 S__law_draws (fun _ _ _ _ _ _ us hl => match us, hl with | [_], _ => rfl) (fun cdv A outer s H E hg hr tk hp => by
    unfold b__law_draws
    exact (ss_cons (st_own 1 [] sb__law_draws S__law_draws.nd (fx_lst ax_nil)) (ss_cons ((st_for (vs := [2]) hp rfl (ix_any (px_sl (px_var 0 nm__law_draws) ox_none (ox_some (px_int)))) (gx_name 2 lc__law_draws S__law_draws.nd) (ss_cons (st_set 3 [] sb__law_draws S__law_draws.nd (px_blt 0 gl__law_draws call_abs sd_abs (I.free 5) bb_abs (ax_cons (px_var 2 nm__law_draws) ax_nil))) (ss_one (st_if [] (tx_cmp op_ge (sd_cmp _) (px_var 3 nm__law_draws) (px_bin op_pow sd_pow (px_int) (px_int))) (ss_one ((st_for (vs := [4]) hp rfl (ix_range1 1 gl__law_draws (I.free 36) (ax_cons (px_int) ax_nil)) (gx_name 4 lc__law_draws S__law_draws.nd) (ss_one (st_if [] (tx_cmp op_gt (sd_cmp _) (px_var 3 nm__law_draws) (px_int)) (ss_cons (st_app 1 [] nm__law_draws (px_bin op_modN sd_mod (px_bty 2 gl__law_draws call_intG sd_int (I.free 1) bb_int (ax_cons (px_var 3 nm__law_draws) ax_nil)) (px_int))) (ss_one (st_set 3 [] sb__law_draws S__law_draws.nd (px_bin op_divI sd_div (px_var 3 nm__law_draws) (px_int))))) ss_nil))))) (ss_cons (st_set 5 [] sb__law_draws S__law_draws.nd (px_bin op_modN sd_mod (px_bty 2 gl__law_draws call_intG sd_int (I.free 1) bb_int (ax_cons (px_bin op_addG sd_add (px_bin op_mulG sd_mul (px_var 3 nm__law_draws) (px_int)) (px_int)) ax_nil)) (px_int))) (ss_one ((st_for (vs := [4]) hp rfl (ix_range1 1 gl__law_draws (I.free 36) (ax_cons (px_int) ax_nil)) (gx_name 4 lc__law_draws S__law_draws.nd) (ss_cons (st_set 5 [] sb__law_draws S__law_draws.nd (px_bin op_modN sd_mod (px_bty 2 gl__law_draws call_intG sd_int (I.free 1) bb_int (ax_cons (px_bin op_addG sd_add (px_bin op_addG sd_add (px_bin op_mulG sd_mul (px_var 5 nm__law_draws) (px_int)) (px_bin op_mulG sd_mul (px_int) (px_var 4 nm__law_draws))) (px_int)) ax_nil)) (px_int))) (ss_one (st_app 1 [] nm__law_draws (px_bin op_divI sd_div (px_var 5 nm__law_draws) (px_int)))))))))))))) (ss_one (st_fix 1 ((st_ret [] (px_var 1 nm__law_draws))))))))
/-! _law_more -/
def N__law_more : List Str := ["draws", "place", "mixed", "k"]
theorem S__law_more : FnScope N__law_more ["draws", "place"] (defScope st__law_more) := ⟨rfl, rfl, rfl, by decide +kernel, rfl, by decide +kernel, by decide +kernel⟩
theorem nm__law_more : nmB [0, 1, 2, 3] N__law_more (defScope st__law_more) = true := by decide +kernel
theorem lc__law_more : lcB [3] N__law_more (defScope st__law_more) = true := by decide +kernel
theorem sb__law_more : stB [2] N__law_more (defScope st__law_more) = true := by decide +kernel
theorem gl__law_more : glB ["int", "len", "range"] (defScope st__law_more) = true := by decide +kernel
def l1__law_more : Ss → Fl := (bSeq (bIf none [] (tTru (eVar 0)) (bAsg none [] [2] (tName 2) (eBin dAdd (eVar 2) (eBin dIx (eVar 0) (eBin dMod (eArgs dIntOf (aCons (eBin dAdd (eBin dMul (eVar 1) (eBin dAdd (eVar 3) (eC (.int 5)))) (eVar 3)) aNil)) (eArgs dLen (aCons (eVar 0) aNil)))))) bNext) (bAsg none [] [2] (tName 2) (eBin dMod (eArgs dIntOf (aCons (eBin dAdd (eBin dAdd (eBin dMul (eVar 2) (eC (.int 16807))) (eBin dMul (eC (.int 69621)) (eVar 3))) (eC (.int 5))) aNil)) (eC (.int 2147483629)))))
def b__law_more : Ss → Fl := (bSeq (bAsg none [] [2] (tName 2) (eBin dMod (eArgs dIntOf (aCons (eBin dAdd (eBin dAdd (eBin dMul (eVar 1) (eC (.int 48271))) (eArgs dLen (aCons (eVar 0) aNil))) (eC (.int 11))) aNil)) (eC (.int 2147483629)))) (bSeq ((bFor none [3] (tName 3) (iArgs dRange1 (aCons (eC (.int 3)) aNil)) l1__law_more)) ((bRet none [] (eBin dDiv (eVar 2) (eC (.int 1009)))))))
def d__law_more : List D → Kp → Out D := fdef 4 none false b__law_more
theorem H__law_more {m : Mo} (I : InA m fa fn fx fi) : Has m 1 "_law_more" ["draws", "place"] d__law_more :=
  has_of (N := N__law_more) (cs := none) (cp := false) (b := b__law_more) (d := D__law_more) I 28 38 S__law_more (fun _ _ _ _ _ _ us hl => match us, hl with | [_, _], _ => rfl) (fun cdv A outer s H E hg hr tk hp => by
    unfold b__law_more
    exact (ss_cons (st_set 2 [] sb__law_more S__law_more.nd (px_bin op_modN sd_mod (px_bty 0 gl__law_more call_intG sd_int (I.free 1) bb_int (ax_cons (px_bin op_addG sd_add (px_bin op_addG sd_add (px_bin op_mulG sd_mul (px_var 1 nm__law_more) (px_int)) (px_blt 1 gl__law_more call_lenG sd_len (I.free 8) bb_len (ax_cons (px_var 0 nm__law_more) ax_nil))) (px_int)) ax_nil)) (px_int))) (ss_cons ((st_for (vs := [3]) hp rfl (ix_range1 2 gl__law_more (I.free 36) (ax_cons (px_int) ax_nil)) (gx_name 3 lc__law_more S__law_more.nd) (ss_cons (st_if [] (tx_tru (px_var 0 nm__law_more)) (ss_one (st_set 2 [] sb__law_more S__law_more.nd (px_bin op_addG sd_add (px_var 2 nm__law_more) (px_ix (px_var 0 nm__law_more) (px_bin op_modN sd_mod (px_bty 0 gl__law_more call_intG sd_int (I.free 1) bb_int (ax_cons (px_bin op_addG sd_add (px_bin op_mulG sd_mul (px_var 1 nm__law_more) (px_bin op_addG sd_add (px_var 3 nm__law_more) (px_int))) (px_var 3 nm__law_more)) ax_nil)) (px_blt 1 gl__law_more call_lenG sd_len (I.free 8) bb_len (ax_cons (px_var 0 nm__law_more) ax_nil))))))) ss_nil) (ss_one (st_set 2 [] sb__law_more S__law_more.nd (px_bin op_modN sd_mod (px_bty 0 gl__law_more call_intG sd_int (I.free 1) bb_int (ax_cons (px_bin op_addG sd_add (px_bin op_addG sd_add (px_bin op_mulG sd_mul (px_var 2 nm__law_more) (px_int)) (px_bin op_mulG sd_mul (px_int) (px_var 3 nm__law_more))) (px_int)) ax_nil)) (px_int))))))) (ss_one ((st_ret [] (px_bin op_divI sd_div (px_var 2 nm__law_more) (px_int))))))))
/-! _law_take -/
def N__law_take : List Str := ["draws", "at", "many", "place"]
theorem S__law_take : FnScope N__law_take ["draws", "at", "many"] (defScope st__law_take) := ⟨rfl, rfl, rfl, by decide +kernel, rfl, by decide +kernel, by decide +kernel⟩
theorem nm__law_take : nmB [0, 1, 2, 3] N__law_take (defScope st__law_take) = true := by decide +kernel
theorem sb__law_take : stB [3] N__law_take (defScope st__law_take) = true := by decide +kernel
theorem gl__law_take : glB ["int", "len", "_law_more"] (defScope st__law_take) = true := by decide +kernel
def b__law_take : Ss → Fl := (bSeq (bAsg (some 1) [1] [3] (tName 3) (eBin dIx (eVar 1) (eC (.int 0)))) (bSeq (bSet (some 1) [] [] 1 (eC (.int 0)) (eBin dAdd (eVar 3) (eC (.int 1)))) ((bRet (some 1) [] (eBin dMod (eArgs dIntOf (aCons (eIf (tBl (eBin dLt (eVar 3) (eArgs dLen (aCons (eVar 0) aNil)))) (eBin dIx (eVar 0) (eVar 3)) (eCall 2 d__law_more (aCons (eVar 0) (aCons (eVar 3) aNil)))) aNil)) (eVar 2))))))
def d__law_take : List D → Kp → Out D := fdef 4 (some 1) true b__law_take
theorem H__law_take {m : Mo} (I : InA m fa fn fx fi) : Has m 2 "_law_take" ["draws", "at", "many"] d__law_take :=
  has_of (N := N__law_take) (cs := (some 1)) (cp := true) (b := b__law_take) (d := D__law_take) I 29 39 S__law_take (fun _ _ _ _ _ _ us hl => match us, hl with | [_, _, _], _ => rfl) (fun cdv A outer s H E hg hr tk hp => by
    unfold b__law_take
    exact (ss_cons (st_set 3 [1] sb__law_take S__law_take.nd (px_ix (px_var 1 nm__law_take) (px_int))) (ss_cons (st_item 1 [] [] nm__law_take (px_int) (px_bin op_addG sd_add (px_var 3 nm__law_take) (px_int))) (ss_one ((st_ret [] (px_bin op_modN sd_mod (px_bty 0 gl__law_take call_intG sd_int (I.free 1) bb_int (ax_cons (px_if (tx_cmp op_lt (sd_cmp _) (px_var 3 nm__law_take) (px_blt 1 gl__law_take call_lenG sd_len (I.free 8) bb_len (ax_cons (px_var 0 nm__law_take) ax_nil))) (px_ix (px_var 0 nm__law_take) (px_var 3 nm__law_take)) (px_callH 2 gl__law_take (H__law_more I) ⟨rfl, rfl, rfl, rfl, rfl⟩ hg hr (by decide) tk (ax_cons (px_var 0 nm__law_take) (ax_cons (px_var 3 nm__law_take) ax_nil)))) ax_nil)) (px_var 2 nm__law_take))))))))
/-! _law_one -/
def N__law_one : List Str := ["rows", "draws", "at"]
theorem S__law_one : FnScope N__law_one ["rows", "draws", "at"] (defScope st__law_one) := ⟨rfl, rfl, rfl, by decide +kernel, rfl, by decide +kernel, by decide +kernel⟩
theorem nm__law_one : nmB [0, 1, 2] N__law_one (defScope st__law_one) = true := by decide +kernel
theorem gl__law_one : glB ["_law_take", "len"] (defScope st__law_one) = true := by decide +kernel
def b__law_one : Ss → Fl := ((bRet (some 2) [] (eBin dIx (eVar 0) (eCall 3 d__law_take (aCons (eVar 1) (aCel (aCons (eArgs dLen (aCons (eVar 0) aNil)) aNil)))))))
def d__law_one : List D → Kp → Out D := fdef 3 (some 2) true b__law_one
theorem H__law_one {m : Mo} (I : InA m fa fn fx fi) : Has m 3 "_law_one" ["rows", "draws", "at"] d__law_one :=
  has_of (N := N__law_one) (cs := (some 2)) (cp := true) (b := b__law_one) (d := D__law_one) I 30 40 S__law_one (fun _ _ _ _ _ _ us hl => match us, hl with | [_, _, _], _ => rfl) (fun cdv A outer s H E hg hr tk hp => by
    unfold b__law_one
    exact (ss_one ((st_ret [] (px_ix (px_var 0 nm__law_one) (px_callH 0 gl__law_one (H__law_take I) ⟨rfl, rfl, rfl, rfl, rfl⟩ hg hr (by decide) tk (ax_cons (px_var 1 nm__law_one) (ax_cel 2 nm__law_one rfl (ax_cons (px_blt 1 gl__law_one call_lenG sd_len (I.free 8) bb_len (ax_cons (px_var 0 nm__law_one) ax_nil)) ax_nil)))))))))
/-! _law_common -/
def N__law_common : List Str := ["one", "other"]
theorem S__law_common : FnScope N__law_common ["one", "other"] (defScope st__law_common) := ⟨rfl, rfl, rfl, by decide +kernel, rfl, by decide +kernel, by decide +kernel⟩
theorem nm__law_common : nmB [0, 1] N__law_common (defScope st__law_common) = true := by decide +kernel
theorem lc__law_common : lcB [0, 1] N__law_common (defScope st__law_common) = true := by decide +kernel
theorem gl__law_common : glB ["abs", "int"] (defScope st__law_common) = true := by decide +kernel
noncomputable def l1__law_common : Ss → Fl := (bPar none 0 1 (aCons (eVar 1) (aCons (eBin dMod (eArgs dIntOf (aCons (eVar 0) aNil)) (eVar 1)) aNil)))
noncomputable def b__law_common : Ss → Fl := (bSeq (bPar none 0 1 (aCons (eArgs dAbs (aCons (eVar 0) aNil)) (aCons (eArgs dAbs (aCons (eVar 1) aNil)) aNil))) (bSeq (bWhile none [] (tBl (eBin dGt (eVar 1) (eC (.int 0)))) l1__law_common) ((bRet none [] (eVar 0)))))
noncomputable def d__law_common : List D → Kp → Out D := fdef 2 none false b__law_common
theorem H__law_common {m : Mo} (I : InA m fa fn fx fi) : Has m 1 "_law_common" ["one", "other"] d__law_common :=
  has_of (N := N__law_common) (cs := none) (cp := false) (b := b__law_common) (d := D__law_common) I 31 41 S__law_common (fun _ _ _ _ _ _ us hl => match us, hl with | [_, _], _ => rfl) (fun cdv A outer s H E hg hr tk hp => by
    unfold b__law_common
    exact (ss_cons (st_par 0 1 lc__law_common S__law_common.nd rfl (ax_cons (px_blt 0 gl__law_common call_abs sd_abs (I.free 5) bb_abs (ax_cons (px_var 0 nm__law_common) ax_nil)) (ax_cons (px_blt 0 gl__law_common call_abs sd_abs (I.free 5) bb_abs (ax_cons (px_var 1 nm__law_common) ax_nil)) ax_nil))) (ss_cons (st_while [] hp (tx_cmp op_gt (sd_cmp _) (px_var 1 nm__law_common) (px_int)) (ss_one (st_par 0 1 lc__law_common S__law_common.nd rfl (ax_cons (px_var 1 nm__law_common) (ax_cons (px_bin op_modN sd_mod (px_bty 1 gl__law_common call_intG sd_int (I.free 1) bb_int (ax_cons (px_var 0 nm__law_common) ax_nil)) (px_var 1 nm__law_common)) ax_nil))))) (ss_one ((st_ret [] (px_var 0 nm__law_common)))))))
/-! _law_made -/
def N__law_made : List Str := ["top", "under", "part"]
theorem S__law_made : FnScope N__law_made ["top", "under"] (defScope st__law_made) := ⟨rfl, rfl, rfl, by decide +kernel, rfl, by decide +kernel, by decide +kernel⟩
theorem nm__law_made : nmB [0, 1, 2] N__law_made (defScope st__law_made) = true := by decide +kernel
theorem sb__law_made : stB [2] N__law_made (defScope st__law_made) = true := by decide +kernel
theorem gl__law_made : glB ["_law_common"] (defScope st__law_made) = true := by decide +kernel
noncomputable def b__law_made : Ss → Fl := (bSeq (bAsg none [] [2] (tName 2) (eBin dMul (eCall 2 d__law_common (aCons (eVar 0) (aCons (eVar 1) aNil))) (eIf (tBl (eBin dGt (eVar 1) (eC (.int 0)))) (eC (.int 1)) (eUn dNeg (eC (.int 1)))))) ((bRet none [] (eArgs dTup (aCons (eBin dDiv (eVar 0) (eVar 2)) (aCons (eBin dDiv (eVar 1) (eVar 2)) aNil))))))
noncomputable def d__law_made : List D → Kp → Out D := fdef 3 none false b__law_made
theorem H__law_made {m : Mo} (I : InA m fa fn fx fi) : Has m 2 "_law_made" ["top", "under"] d__law_made :=
  has_of (N := N__law_made) (cs := none) (cp := false) (b := b__law_made) (d := D__law_made) I 32 42 S__law_made (fun _ _ _ _ _ _ us hl => match us, hl with | [_, _], _ => rfl) (fun cdv A outer s H E hg hr tk hp => by
    unfold b__law_made
    exact (ss_cons (st_set 2 [] sb__law_made S__law_made.nd (px_bin op_mulG sd_mul (px_callH 0 gl__law_made (H__law_common I) ⟨rfl, rfl, rfl, rfl, rfl⟩ hg hr (by decide) tk (ax_cons (px_var 0 nm__law_made) (ax_cons (px_var 1 nm__law_made) ax_nil))) (px_if (tx_cmp op_gt (sd_cmp _) (px_var 1 nm__law_made) (px_int)) (px_int) (px_un un_neg sd_neg (px_int))))) (ss_one ((st_ret [] (px_tup (ax_cons (px_bin op_divI sd_div (px_var 0 nm__law_made) (px_var 2 nm__law_made)) (ax_cons (px_bin op_divI sd_div (px_var 1 nm__law_made) (px_var 2 nm__law_made)) ax_nil))))))))
/-! _law_plus -/
def N__law_plus : List Str := ["one", "other"]
theorem S__law_plus : FnScope N__law_plus ["one", "other"] (defScope st__law_plus) := ⟨rfl, rfl, rfl, by decide +kernel, rfl, by decide +kernel, by decide +kernel⟩
theorem nm__law_plus : nmB [0, 1] N__law_plus (defScope st__law_plus) = true := by decide +kernel
theorem gl__law_plus : glB ["_law_made"] (defScope st__law_plus) = true := by decide +kernel
noncomputable def b__law_plus : Ss → Fl := (bSeq (bIf none [] ((G.tOr (tBl (eBin dIsN (eVar 0) (eC .non))) (tBl (eBin dIsN (eVar 1) (eC .non))))) ((bRet none [] (eC .non))) bNext) ((bRet none [] (eCall 2 d__law_made (aCons (eBin dAdd (eBin dMul (eBin dIx (eVar 0) (eC (.int 0))) (eBin dIx (eVar 1) (eC (.int 1)))) (eBin dMul (eBin dIx (eVar 1) (eC (.int 0))) (eBin dIx (eVar 0) (eC (.int 1))))) (aCons (eBin dMul (eBin dIx (eVar 0) (eC (.int 1))) (eBin dIx (eVar 1) (eC (.int 1)))) aNil))))))
noncomputable def d__law_plus : List D → Kp → Out D := fdef 2 none false b__law_plus
theorem H__law_plus {m : Mo} (I : InA m fa fn fx fi) : Has m 3 "_law_plus" ["one", "other"] d__law_plus :=
  has_of (N := N__law_plus) (cs := none) (cp := false) (b := b__law_plus) (d := D__law_plus) I 33 43 S__law_plus (fun _ _ _ _ _ _ us hl => match us, hl with | [_, _], _ => rfl) (fun cdv A outer s H E hg hr tk hp => by
    unfold b__law_plus
    exact (ss_cons (st_if [] (tx_w (wx_or (tx_cmp op_isN sd_isN (px_var 0 nm__law_plus) (px_non)) (wx_or1 (tx_cmp op_isN sd_isN (px_var 1 nm__law_plus) (px_non))))) (ss_one ((st_ret [] (px_non)))) ss_nil) (ss_one ((st_ret [] (px_callH 0 gl__law_plus (H__law_made I) ⟨rfl, rfl, rfl, rfl, rfl⟩ hg hr (by decide) tk (ax_cons (px_bin op_addG sd_add (px_bin op_mulG sd_mul (px_ix (px_var 0 nm__law_plus) (px_int)) (px_ix (px_var 1 nm__law_plus) (px_int))) (px_bin op_mulG sd_mul (px_ix (px_var 1 nm__law_plus) (px_int)) (px_ix (px_var 0 nm__law_plus) (px_int)))) (ax_cons (px_bin op_mulG sd_mul (px_ix (px_var 0 nm__law_plus) (px_int)) (px_ix (px_var 1 nm__law_plus) (px_int))) ax_nil))))))))
/-! _law_scaled -/
def N__law_scaled : List Str := ["one", "top", "under"]
theorem S__law_scaled : FnScope N__law_scaled ["one", "top", "under"] (defScope st__law_scaled) := ⟨rfl, rfl, rfl, by decide +kernel, rfl, by decide +kernel, by decide +kernel⟩
theorem nm__law_scaled : nmB [0, 1, 2] N__law_scaled (defScope st__law_scaled) = true := by decide +kernel
theorem gl__law_scaled : glB ["_law_made"] (defScope st__law_scaled) = true := by decide +kernel
noncomputable def b__law_scaled : Ss → Fl := ((bRet none [] (eCall 2 d__law_made (aCons (eBin dMul (eBin dIx (eVar 0) (eC (.int 0))) (eVar 1)) (aCons (eBin dMul (eBin dIx (eVar 0) (eC (.int 1))) (eVar 2)) aNil)))))
noncomputable def d__law_scaled : List D → Kp → Out D := fdef 3 none false b__law_scaled
theorem H__law_scaled {m : Mo} (I : InA m fa fn fx fi) : Has m 3 "_law_scaled" ["one", "top", "under"] d__law_scaled :=
  has_of (N := N__law_scaled) (cs := none) (cp := false) (b := b__law_scaled) (d := D__law_scaled) I 34 44 S__law_scaled (fun _ _ _ _ _ _ us hl => match us, hl with | [_, _, _], _ => rfl) (fun cdv A outer s H E hg hr tk hp => by
    unfold b__law_scaled
    exact (ss_one ((st_ret [] (px_callH 0 gl__law_scaled (H__law_made I) ⟨rfl, rfl, rfl, rfl, rfl⟩ hg hr (by decide) tk (ax_cons (px_bin op_mulG sd_mul (px_ix (px_var 0 nm__law_scaled) (px_int)) (px_var 1 nm__law_scaled)) (ax_cons (px_bin op_mulG sd_mul (px_ix (px_var 0 nm__law_scaled) (px_int)) (px_var 2 nm__law_scaled)) ax_nil)))))))
/-! _law_back -/
def N__law_back : List Str := ["one"]
theorem S__law_back : FnScope N__law_back ["one"] (defScope st__law_back) := ⟨rfl, rfl, rfl, by decide +kernel, rfl, by decide +kernel, by decide +kernel⟩
theorem nm__law_back : nmB [0] N__law_back (defScope st__law_back) = true := by decide +kernel
def b__law_back : Ss → Fl := ((bRet none [] (eArgs dTup (aCons (eBin dSub (eC (.int 0)) (eBin dIx (eVar 0) (eC (.int 0)))) (aCons (eBin dIx (eVar 0) (eC (.int 1))) aNil)))))
def d__law_back : List D → Kp → Out D := fdef 1 none false b__law_back
theorem H__law_back {m : Mo} (I : InA m fa fn fx fi) : Has m 1 "_law_back" ["one"] d__law_back :=
  has_of (N := N__law_back) (cs := none) (cp := false) (b := b__law_back) (d := D__law_back) I 35 45 S__law_back (fun _ _ _ _ _ _ us hl => match us, hl with | [_], _ => rfl) (fun cdv A outer s H E hg hr tk hp => by
    unfold b__law_back
    exact (ss_one ((st_ret [] (px_tup (ax_cons (px_bin op_subG sd_sub (px_int) (px_ix (px_var 0 nm__law_back) (px_int))) (ax_cons (px_ix (px_var 0 nm__law_back) (px_int)) ax_nil)))))))
/-! _law_less -/
def N__law_less : List Str := ["one", "other"]
theorem S__law_less : FnScope N__law_less ["one", "other"] (defScope st__law_less) := ⟨rfl, rfl, rfl, by decide +kernel, rfl, by decide +kernel, by decide +kernel⟩
theorem nm__law_less : nmB [0, 1] N__law_less (defScope st__law_less) = true := by decide +kernel
theorem gl__law_less : glB ["_law_plus", "_law_back"] (defScope st__law_less) = true := by decide +kernel
noncomputable def b__law_less : Ss → Fl := ((bRet none [] (eCall 2 d__law_plus (aCons (eVar 0) (aCons (eCall 1 d__law_back (aCons (eVar 1) aNil)) aNil)))))
noncomputable def d__law_less : List D → Kp → Out D := fdef 2 none false b__law_less
theorem H__law_less {m : Mo} (I : InA m fa fn fx fi) : Has m 4 "_law_less" ["one", "other"] d__law_less :=
  has_of (N := N__law_less) (cs := none) (cp := false) (b := b__law_less) (d := D__law_less) I 36 46 S__law_less (fun _ _ _ _ _ _ us hl => match us, hl with | [_, _], _ => rfl) (fun cdv A outer s H E hg hr tk hp => by
    unfold b__law_less
    exact (ss_one ((st_ret [] (px_callH 0 gl__law_less (H__law_plus I) ⟨rfl, rfl, rfl, rfl, rfl⟩ hg hr (by decide) tk (ax_cons (px_var 0 nm__law_less) (ax_cons (px_callH 1 gl__law_less (H__law_back I) ⟨rfl, rfl, rfl, rfl, rfl⟩ hg hr (by decide) tk (ax_cons (px_var 1 nm__law_less) ax_nil)) ax_nil)))))))
/-! _law_order -/
def N__law_order : List Str := ["one", "other", "rest"]
theorem S__law_order : FnScope N__law_order ["one", "other"] (defScope st__law_order) := ⟨rfl, rfl, rfl, by decide +kernel, rfl, by decide +kernel, by decide +kernel⟩
theorem nm__law_order : nmB [0, 1, 2] N__law_order (defScope st__law_order) = true := by decide +kernel
theorem sb__law_order : stB [2] N__law_order (defScope st__law_order) = true := by decide +kernel
theorem gl__law_order : glB ["int"] (defScope st__law_order) = true := by decide +kernel
def b__law_order : Ss → Fl := (bSeq (bIf none [] ((G.tOr (tBl (eBin dIsN (eVar 0) (eC .non))) (tBl (eBin dIsN (eVar 1) (eC .non))))) ((bRet none [] (eBin dSub (eArgs dIntOf (aCons (eBin dNotN (eVar 0) (eC .non)) aNil)) (eArgs dIntOf (aCons (eBin dNotN (eVar 1) (eC .non)) aNil))))) bNext) (bSeq (bAsg none [] [2] (tName 2) (eBin dSub (eBin dMul (eBin dIx (eVar 0) (eC (.int 0))) (eBin dIx (eVar 1) (eC (.int 1)))) (eBin dMul (eBin dIx (eVar 1) (eC (.int 0))) (eBin dIx (eVar 0) (eC (.int 1)))))) ((bRet none [] (eBin dSub (eArgs dIntOf (aCons (eBin dGt (eVar 2) (eC (.int 0))) aNil)) (eArgs dIntOf (aCons (eBin dLt (eVar 2) (eC (.int 0))) aNil)))))))
def d__law_order : List D → Kp → Out D := fdef 3 none false b__law_order
theorem H__law_order {m : Mo} (I : InA m fa fn fx fi) : Has m 1 "_law_order" ["one", "other"] d__law_order :=
  has_of (N := N__law_order) (cs := none) (cp := false) (b := b__law_order) (d := D__law_order) I 37 47 S__law_order (fun _ _ _ _ _ _ us hl => match us, hl with | [_, _], _ => rfl) (fun cdv A outer s H E hg hr tk hp => by
    unfold b__law_order
    exact (ss_cons (st_if [] (tx_w (wx_or (tx_cmp op_isN sd_isN (px_var 0 nm__law_order) (px_non)) (wx_or1 (tx_cmp op_isN sd_isN (px_var 1 nm__law_order) (px_non))))) (ss_one ((st_ret [] (px_bin op_subG sd_sub (px_bty 0 gl__law_order call_intG sd_int (I.free 1) bb_int (ax_cons (px_cmp op_notN sd_notN (px_var 0 nm__law_order) (px_non)) ax_nil)) (px_bty 0 gl__law_order call_intG sd_int (I.free 1) bb_int (ax_cons (px_cmp op_notN sd_notN (px_var 1 nm__law_order) (px_non)) ax_nil)))))) ss_nil) (ss_cons (st_set 2 [] sb__law_order S__law_order.nd (px_bin op_subG sd_sub (px_bin op_mulG sd_mul (px_ix (px_var 0 nm__law_order) (px_int)) (px_ix (px_var 1 nm__law_order) (px_int))) (px_bin op_mulG sd_mul (px_ix (px_var 1 nm__law_order) (px_int)) (px_ix (px_var 0 nm__law_order) (px_int))))) (ss_one ((st_ret [] (px_bin op_subG sd_sub (px_bty 0 gl__law_order call_intG sd_int (I.free 1) bb_int (ax_cons (px_cmp op_gt (sd_cmp _) (px_var 2 nm__law_order) (px_int)) ax_nil)) (px_bty 0 gl__law_order call_intG sd_int (I.free 1) bb_int (ax_cons (px_cmp op_lt (sd_cmp _) (px_var 2 nm__law_order) (px_int)) ax_nil)))))))))
/-! _law_most -/
def N__law_most : List Str := ["row", "best", "one"]
theorem S__law_most : FnScope N__law_most ["row"] (defScope st__law_most) := ⟨rfl, rfl, rfl, by decide +kernel, rfl, by decide +kernel, by decide +kernel⟩
theorem nm__law_most : nmB [0, 1, 2] N__law_most (defScope st__law_most) = true := by decide +kernel
theorem lc__law_most : lcB [2] N__law_most (defScope st__law_most) = true := by decide +kernel
theorem sb__law_most : stB [1] N__law_most (defScope st__law_most) = true := by decide +kernel
theorem gl__law_most : glB ["_law_order"] (defScope st__law_most) = true := by decide +kernel
def l1__law_most : Ss → Fl := (bAsg none [] [1] (tName 1) (eIf (tBl (eBin dGt (eCall 2 d__law_order (aCons (eVar 2) (aCons (eVar 1) aNil))) (eC (.int 0)))) (eVar 2) (eVar 1)))
def b__law_most : Ss → Fl := (bSeq (bAsg none [] [1] (tName 1) (eC .non)) (bSeq ((bFor none [2] (tName 2) (iOf (eVar 0)) l1__law_most)) ((bRet none [] (eVar 1)))))
def d__law_most : List D → Kp → Out D := fdef 3 none false b__law_most
theorem H__law_most {m : Mo} (I : InA m fa fn fx fi) : Has m 2 "_law_most" ["row"] d__law_most :=
  has_of (N := N__law_most) (cs := none) (cp := false) (b := b__law_most) (d := D__law_most) I 38 48 S__law_most (fun _ _ _ _ _ _ us hl => match us, hl with | [_], _ => rfl) (fun cdv A outer s H E hg hr tk hp => by
    unfold b__law_most
    exact (ss_cons (st_set 1 [] sb__law_most S__law_most.nd (px_non)) (ss_cons ((st_for (vs := [2]) hp rfl (ix_any (px_var 0 nm__law_most)) (gx_name 2 lc__law_most S__law_most.nd) (ss_one (st_set 1 [] sb__law_most S__law_most.nd (px_if (tx_cmp op_gt (sd_cmp _) (px_callH 0 gl__law_most (H__law_order I) ⟨rfl, rfl, rfl, rfl, rfl⟩ hg hr (by decide) tk (ax_cons (px_var 2 nm__law_most) (ax_cons (px_var 1 nm__law_most) ax_nil))) (px_int)) (px_var 2 nm__law_most) (px_var 1 nm__law_most)))))) (ss_one ((st_ret [] (px_var 1 nm__law_most)))))))
/-! _law_weight -/
def N__law_weight : List Str := ["draws", "at"]
theorem S__law_weight : FnScope N__law_weight ["draws", "at"] (defScope st__law_weight) := ⟨rfl, rfl, rfl, by decide +kernel, rfl, by decide +kernel, by decide +kernel⟩
theorem nm__law_weight : nmB [0, 1] N__law_weight (defScope st__law_weight) = true := by decide +kernel
theorem gl__law_weight : glB ["_law_take", "_law_made", "_law_one"] (defScope st__law_weight) = true := by decide +kernel
noncomputable def b__law_weight : Ss → Fl := (bSeq (bIf (some 1) [] (tBl (eBin dEq (eCall 3 d__law_take (aCons (eVar 0) (aCel (aCons (eC (.int 4)) aNil)))) (eC (.int 0)))) ((bRet (some 1) [] (eC .non))) bNext) ((bRet (some 1) [] (eCall 2 d__law_made (aCons (eBin dSub (eCall 3 d__law_take (aCons (eVar 0) (aCel (aCons (eC (.int 13)) aNil)))) (eC (.int 6))) (aCons (eCall 3 d__law_one (aCons (eArgs dLst (aCons (eC (.int 1)) (aCons (eC (.int 1)) (aCons (eC (.int 1)) (aCons (eC (.int 2)) (aCons (eC (.int 3)) aNil)))))) (aCons (eVar 0) (aCel aNil)))) aNil))))))
noncomputable def d__law_weight : List D → Kp → Out D := fdef 2 (some 1) true b__law_weight
theorem H__law_weight {m : Mo} (I : InA m fa fn fx fi) : Has m 4 "_law_weight" ["draws", "at"] d__law_weight :=
  has_of (N := N__law_weight) (cs := (some 1)) (cp := true) (b := b__law_weight) (d := D__law_weight) I 39 49 S__law_weight (fun _ _ _ _ _ _ us hl => match us, hl with | [_, _], _ => rfl) (fun cdv A outer s H E hg hr tk hp => by
    unfold b__law_weight
    exact (ss_cons (st_if [] (tx_cmp (op_eqD hr.units) sd_eq (px_callH 0 gl__law_weight (H__law_take I) ⟨rfl, rfl, rfl, rfl, rfl⟩ hg hr (by decide) tk (ax_cons (px_var 0 nm__law_weight) (ax_cel 1 nm__law_weight rfl (ax_cons (px_int) ax_nil)))) (px_int)) (ss_one ((st_ret [] (px_non)))) ss_nil) (ss_one ((st_ret [] (px_callH 1 gl__law_weight (H__law_made I) ⟨rfl, rfl, rfl, rfl, rfl⟩ hg hr (by decide) tk (ax_cons (px_bin op_subG sd_sub (px_callH 0 gl__law_weight (H__law_take I) ⟨rfl, rfl, rfl, rfl, rfl⟩ hg hr (by decide) tk (ax_cons (px_var 0 nm__law_weight) (ax_cel 1 nm__law_weight rfl (ax_cons (px_int) ax_nil)))) (px_int)) (ax_cons (px_callH 2 gl__law_weight (H__law_one I) ⟨rfl, rfl, rfl, rfl, rfl⟩ hg hr (by decide) tk (ax_cons (px_lst (ax_cons (px_int) (ax_cons (px_int) (ax_cons (px_int) (ax_cons (px_int) (ax_cons (px_int) ax_nil)))))) (ax_cons (px_var 0 nm__law_weight) (ax_cel 1 nm__law_weight rfl ax_nil)))) ax_nil))))))))
/-! _law_told -/
def N__law_told : List Str := ["call", "one", "two", "rows", "e"]
theorem S__law_told : FnScope N__law_told ["call", "one", "two"] (defScope st__law_told) := ⟨rfl, rfl, rfl, by decide +kernel, rfl, by decide +kernel, by decide +kernel⟩
theorem nm__law_told : nmB [0, 1, 2, 3] N__law_told (defScope st__law_told) = true := by decide +kernel
theorem lc__law_told : lcB [4] N__law_told (defScope st__law_told) = true := by decide +kernel
theorem sb__law_told : stB [3] N__law_told (defScope st__law_told) = true := by decide +kernel
theorem gl__law_told : glB ["weight", "plus", "times", "over", "compare", "raised", "root", "shift_between", "ArgumentError", "isinstance", "MeasureError"] (defScope st__law_told) = true := by decide +kernel
noncomputable def vt1__law_told : VTab := [("weight", d_weight), ("plus", d_plus), ("times", d_times), ("over", d_over), ("compare", d_compare), ("raised", d_raised), ("root", d_root), ("shift_between", d_shift_between)]
theorem vt1__law_told_ok {m : Mo} (I : InA m fa fn fx fi) : TabOk m 7 2 vt1__law_told := by
  intro t ht
  unfold vt1__law_told at ht
  simp only [List.mem_cons, List.not_mem_nil, or_false] at ht
  rcases ht with rfl | rfl | rfl | rfl | rfl | rfl | rfl | rfl
  · exact ⟨⟨_, by rfl, (H_weight I).mono (by decide)⟩⟩
  · exact ⟨⟨_, by rfl, (H_plus I).mono (by decide)⟩⟩
  · exact ⟨⟨_, by rfl, (H_times I).mono (by decide)⟩⟩
  · exact ⟨⟨_, by rfl, (H_over I).mono (by decide)⟩⟩
  · exact ⟨⟨_, by rfl, (H_compare I).mono (by decide)⟩⟩
  · exact ⟨⟨_, by rfl, (H_raised I).mono (by decide)⟩⟩
  · exact ⟨⟨_, by rfl, (H_root I).mono (by decide)⟩⟩
  · exact ⟨⟨_, by rfl, (H_shift_between I).mono (by decide)⟩⟩
noncomputable def b__law_told : Ss → Fl := (bTry ["ArgumentError"] [(["ArgumentError"], some 4, (fun x => ((fun x => ((fun y => if List.contains [("ArgumentError" : Str)] y.cls = true then some (.bl (List.contains [("ArgumentError" : Str)] y.cls)) else none) x).bind dBool) x).bind fun q => if q = true then (fun x => ((gCons2 (fun _ => some (.str "argument")) (gCons2 (fun y => if y.cls = "ArgumentError" then y.fs.lookup ("reason" : Str) else none) (fun _ => some []))) x).bind dTup) x else (fun _ => some (.str "")) x))] (bSeq (bAsg none [] [3] (tName 3) (eArgs dLst (aCons (eC (.fn "weight")) (aCons (eC (.fn "plus")) (aCons (eC (.fn "times")) (aCons (eC (.fn "over")) (aCons (eC (.fn "compare")) (aCons (eC (.fn "raised")) (aCons (eC (.fn "root")) (aCons (eC (.fn "shift_between")) aNil)))))))))) ((bRet none [] (eCallV 2 vt1__law_told (eBin dIx (eVar 3) (eVar 0)) (aCons (eVar 1) (aCons (eVar 2) aNil)))))))
noncomputable def d__law_told : List D → Kp → Out D := fdef 5 none false b__law_told
theorem H__law_told {m : Mo} (I : InA m fa fn fx fi) : Has m 8 "_law_told" ["call", "one", "two"] d__law_told :=
  has_of (N := N__law_told) (cs := none) (cp := false) (b := b__law_told) (d := D__law_told) I 40 52 S__law_told (fun _ _ _ _ _ _ us hl => match us, hl with | [_, _, _], _ => rfl) (fun cdv A outer s H E hg hr tk hp => by
    unfold b__law_told
    exact (ss_one (st_try rfl rfl S__law_told.nd tk (fun _ _ _ tk hp => (ss_cons (st_set 3 [] sb__law_told S__law_told.nd (px_lst (ax_cons (px_glob 0 gl__law_told (I.fnv 23)) (ax_cons (px_glob 1 gl__law_told (I.fnv 25)) (ax_cons (px_glob 2 gl__law_told (I.fnv 26)) (ax_cons (px_glob 3 gl__law_told (I.fnv 27)) (ax_cons (px_glob 4 gl__law_told (I.fnv 28)) (ax_cons (px_glob 5 gl__law_told (I.fnv 29)) (ax_cons (px_glob 6 gl__law_told (I.fnv 30)) (ax_cons (px_glob 7 gl__law_told (I.fnv 35)) ax_nil)))))))))) (ss_one ((st_ret [] (px_callV (vt1__law_told_ok I) ⟨rfl, rfl, rfl, rfl, rfl⟩ hg hr (by decide) tk (px_ix (px_var 3 nm__law_told) (px_var 0 nm__law_told)) (ax_cons (px_var 1 nm__law_told) (ax_cons (px_var 2 nm__law_told) ax_nil)))))))) (.as (names_of 8 gl__law_told (I.glo 50)) (cat_ArgumentError I) rfl (lc_of lc__law_told (i := 4) (by rfl) (by rfl)) rfl (hs_ret (he_if (ht_of (ht_isi 9 10 gl__law_told rfl (lc_of lc__law_told (i := 4) (by rfl) (by rfl)) (I.free 0) (.inl ⟨I.glo 51, _, rfl⟩) (ist_ArgumentError_MeasureError I))) (he_tup (ha_cons he_str (ha_cons (he_fld (cls := "ArgumentError") rfl (lc_of lc__law_told (i := 4) (by rfl) (by rfl)) (M_ArgumentError I).mg (xf_ArgumentError_reason I).1 (xf_ArgumentError_reason I).2) ha_nil))) he_str)) .nil))))
/-! _law_whole -/
def N__law_whole : List Str := ["draws", "at", "size"]
theorem S__law_whole : FnScope N__law_whole ["draws", "at"] (defScope st__law_whole) := ⟨rfl, rfl, rfl, by decide +kernel, rfl, by decide +kernel, by decide +kernel⟩
theorem nm__law_whole : nmB [0, 1, 2] N__law_whole (defScope st__law_whole) = true := by decide +kernel
theorem sb__law_whole : stB [2] N__law_whole (defScope st__law_whole) = true := by decide +kernel
theorem gl__law_whole : glB ["_law_one", "_law_take"] (defScope st__law_whole) = true := by decide +kernel
def b__law_whole : Ss → Fl := (bSeq (bAsg (some 1) [] [2] (tName 2) (eCall 3 d__law_one (aCons (eArgs dLst (aCons (eC (.int 1)) (aCons (eC (.int 4)) (aCons (eC (.int 20)) (aCons (eC (.int 1000)) (aCons (eC (.int 1000000)) aNil)))))) (aCons (eVar 0) (aCel aNil))))) ((bRet (some 1) [] (eIf (tBl (eBin dLt (eVar 2) (eC (.int 1000)))) (eBin dSub (eCall 3 d__law_take (aCons (eVar 0) (aCel (aCons (eBin dAdd (eBin dMul (eC (.int 2)) (eVar 2)) (eC (.int 1))) aNil)))) (eVar 2)) (eBin dMul (eCall 3 d__law_one (aCons (eArgs dLst (aCons (eC (.int 1)) (aCons (eUn dNeg (eC (.int 1))) aNil))) (aCons (eVar 0) (aCel aNil)))) (eBin dSub (eVar 2) (eCall 3 d__law_take (aCons (eVar 0) (aCel (aCons (eC (.int 1000)) aNil))))))))))
def d__law_whole : List D → Kp → Out D := fdef 3 (some 1) true b__law_whole
theorem H__law_whole {m : Mo} (I : InA m fa fn fx fi) : Has m 4 "_law_whole" ["draws", "at"] d__law_whole :=
  has_of (N := N__law_whole) (cs := (some 1)) (cp := true) (b := b__law_whole) (d := D__law_whole) I 41 53 S__law_whole (fun _ _ _ _ _ _ us hl => match us, hl with | [_, _], _ => rfl) (fun cdv A outer s H E hg hr tk hp => by
    unfold b__law_whole
    exact (ss_cons (st_set 2 [] sb__law_whole S__law_whole.nd (px_callH 0 gl__law_whole (H__law_one I) ⟨rfl, rfl, rfl, rfl, rfl⟩ hg hr (by decide) tk (ax_cons (px_lst (ax_cons (px_int) (ax_cons (px_int) (ax_cons (px_int) (ax_cons (px_int) (ax_cons (px_int) ax_nil)))))) (ax_cons (px_var 0 nm__law_whole) (ax_cel 1 nm__law_whole rfl ax_nil))))) (ss_one ((st_ret [] (px_if (tx_cmp op_lt (sd_cmp _) (px_var 2 nm__law_whole) (px_int)) (px_bin op_subG sd_sub (px_callH 1 gl__law_whole (H__law_take I) ⟨rfl, rfl, rfl, rfl, rfl⟩ hg hr (by decide) tk (ax_cons (px_var 0 nm__law_whole) (ax_cel 1 nm__law_whole rfl (ax_cons (px_bin op_addG sd_add (px_bin op_mulG sd_mul (px_int) (px_var 2 nm__law_whole)) (px_int)) ax_nil)))) (px_var 2 nm__law_whole)) (px_bin op_mulG sd_mul (px_callH 0 gl__law_whole (H__law_one I) ⟨rfl, rfl, rfl, rfl, rfl⟩ hg hr (by decide) tk (ax_cons (px_lst (ax_cons (px_int) (ax_cons (px_un un_neg sd_neg (px_int)) ax_nil))) (ax_cons (px_var 0 nm__law_whole) (ax_cel 1 nm__law_whole rfl ax_nil)))) (px_bin op_subG sd_sub (px_var 2 nm__law_whole) (px_callH 1 gl__law_whole (H__law_take I) ⟨rfl, rfl, rfl, rfl, rfl⟩ hg hr (by decide) tk (ax_cons (px_var 0 nm__law_whole) (ax_cel 1 nm__law_whole rfl (ax_cons (px_int) ax_nil))))))))))))
/-! _law_any -/
def N__law_any : List Str := ["draws", "at", "under"]
theorem S__law_any : FnScope N__law_any ["draws", "at"] (defScope st__law_any) := ⟨rfl, rfl, rfl, by decide +kernel, rfl, by decide +kernel, by decide +kernel⟩
theorem nm__law_any : nmB [0, 1, 2] N__law_any (defScope st__law_any) = true := by decide +kernel
theorem sb__law_any : stB [2] N__law_any (defScope st__law_any) = true := by decide +kernel
theorem gl__law_any : glB ["_law_take", "abs", "_law_whole", "_law_made"] (defScope st__law_any) = true := by decide +kernel
noncomputable def b__law_any : Ss → Fl := (bSeq (bIf (some 1) [] (tBl (eBin dEq (eCall 3 d__law_take (aCons (eVar 0) (aCel (aCons (eC (.int 5)) aNil)))) (eC (.int 0)))) ((bRet (some 1) [] (eC .non))) bNext) (bSeq (bAsg (some 1) [] [2] (tName 2) (eArgs dAbs (aCons (eCall 2 d__law_whole (aCons (eVar 0) (aCel aNil))) aNil))) ((bRet (some 1) [] (eCall 2 d__law_made (aCons (eCall 2 d__law_whole (aCons (eVar 0) (aCel aNil))) (aCons (eIf (tBl (eBin dGt (eVar 2) (eC (.int 0)))) (eVar 2) (eC (.int 1))) aNil)))))))
noncomputable def d__law_any : List D → Kp → Out D := fdef 3 (some 1) true b__law_any
theorem H__law_any {m : Mo} (I : InA m fa fn fx fi) : Has m 5 "_law_any" ["draws", "at"] d__law_any :=
  has_of (N := N__law_any) (cs := (some 1)) (cp := true) (b := b__law_any) (d := D__law_any) I 42 54 S__law_any (fun _ _ _ _ _ _ us hl => match us, hl with | [_, _], _ => rfl) (fun cdv A outer s H E hg hr tk hp => by
    unfold b__law_any
    exact (ss_cons (st_if [] (tx_cmp (op_eqD hr.units) sd_eq (px_callH 0 gl__law_any (H__law_take I) ⟨rfl, rfl, rfl, rfl, rfl⟩ hg hr (by decide) tk (ax_cons (px_var 0 nm__law_any) (ax_cel 1 nm__law_any rfl (ax_cons (px_int) ax_nil)))) (px_int)) (ss_one ((st_ret [] (px_non)))) ss_nil) (ss_cons (st_set 2 [] sb__law_any S__law_any.nd (px_blt 1 gl__law_any call_abs sd_abs (I.free 5) bb_abs (ax_cons (px_callH 2 gl__law_any (H__law_whole I) ⟨rfl, rfl, rfl, rfl, rfl⟩ hg hr (by decide) tk (ax_cons (px_var 0 nm__law_any) (ax_cel 1 nm__law_any rfl ax_nil))) ax_nil))) (ss_one ((st_ret [] (px_callH 3 gl__law_any (H__law_made I) ⟨rfl, rfl, rfl, rfl, rfl⟩ hg hr (by decide) tk (ax_cons (px_callH 2 gl__law_any (H__law_whole I) ⟨rfl, rfl, rfl, rfl, rfl⟩ hg hr (by decide) tk (ax_cons (px_var 0 nm__law_any) (ax_cel 1 nm__law_any rfl ax_nil))) (ax_cons (px_if (tx_cmp op_gt (sd_cmp _) (px_var 2 nm__law_any) (px_int)) (px_var 2 nm__law_any) (px_int)) ax_nil)))))))))
/-! _law_shift -/
def N__law_shift : List Str := ["row", "other", "k", "gaps"]
theorem S__law_shift : FnScope N__law_shift ["row", "other"] (defScope st__law_shift) := ⟨rfl, rfl, rfl, by decide +kernel, rfl, by decide +kernel, by decide +kernel⟩
theorem nm__law_shift : nmB [0, 3] N__law_shift (defScope st__law_shift) = true := by decide +kernel
theorem sb__law_shift : stB [3] N__law_shift (defScope st__law_shift) = true := by decide +kernel
theorem gl__law_shift : glB ["range", "len", "dict", "list"] (defScope st__law_shift) = true := by decide +kernel
def cs__law_shift_1 : Scope := kC (kE 0 (kV (kS 0 (st__law_shift))))
theorem bk__law_shift_1 : blkC N__law_shift (defScope st__law_shift) cs__law_shift_1 [("k", 2)] = true := by decide +kernel
theorem nm__law_shift_1 : nmB [0, 1, 2] N__law_shift (relS cs__law_shift_1 (defScope st__law_shift)) = true := by decide +kernel
theorem lc__law_shift_1 : lcB [2] N__law_shift (relS cs__law_shift_1 (defScope st__law_shift)) = true := by decide +kernel
def cs__law_shift_2 : Scope := kC (kE 1 (kV (kS 1 (st__law_shift))))
theorem bk__law_shift_2 : blkC N__law_shift (defScope st__law_shift) cs__law_shift_2 [("k", 2)] = true := by decide +kernel
theorem nm__law_shift_2 : nmB [0, 1, 2] N__law_shift (relS cs__law_shift_2 (defScope st__law_shift)) = true := by decide +kernel
theorem lc__law_shift_2 : lcB [2] N__law_shift (relS cs__law_shift_2 (defScope st__law_shift)) = true := by decide +kernel
theorem gl__law_shift_2 : glB ["_law_less"] (relS cs__law_shift_2 (defScope st__law_shift)) = true := by decide +kernel
noncomputable def b__law_shift : Ss → Fl := (bSeq (bIf none [] (tBl (eBin dNe (eLst (eComp [2] (tName 2) (iArgs dRange1 (aCons (eArgs dLen (aCons (eVar 0) aNil)) aNil)) (tBl (eBin dNe (eBin dIsN (eBin dIx (eVar 0) (eVar 2)) (eC .non)) (eBin dIsN (eBin dIx (eVar 1) (eVar 2)) (eC .non)))) (eVar 2))) (eArgs dLst aNil))) ((bRet none [] (eC .non))) bNext) (bSeq (bAsg none [] [3] (tName 3) (eArgs dDictOf (aCons (eLst (eComp [2] (tName 2) (iArgs dRange1 (aCons (eArgs dLen (aCons (eVar 0) aNil)) aNil)) (tBl (eBin dNotN (eBin dIx (eVar 0) (eVar 2)) (eC .non))) (eArgs dTup (aCons (eCall 2 d__law_less (aCons (eBin dIx (eVar 1) (eVar 2)) (aCons (eBin dIx (eVar 0) (eVar 2)) aNil))) (aCons (eC (.int 0)) aNil))))) aNil))) ((bRet none [] (eIf (tBl (eBin dEq (eArgs dLen (aCons (eVar 3) aNil)) (eC (.int 1)))) (eBin dIx (eArgs dLstOf (aCons (eVar 3) aNil)) (eC (.int 0))) (eC .non))))))
noncomputable def d__law_shift : List D → Kp → Out D := fdef 4 none false b__law_shift
theorem H__law_shift {m : Mo} (I : InA m fa fn fx fi) : Has m 5 "_law_shift" ["row", "other"] d__law_shift :=
  has_of (N := N__law_shift) (cs := none) (cp := false) (b := b__law_shift) (d := D__law_shift) I 43 57 S__law_shift (fun _ _ _ _ _ _ us hl => match us, hl with | [_, _], _ => rfl) (fun cdv A outer s H E hg hr tk hp => by
    unfold b__law_shift
    exact (ss_cons (st_if [] (tx_cmp (op_neD hr.units) sd_ne (px_lc (lx_1 (own := [("k", 2)]) (by rfl) (ix_range1 0 gl__law_shift (I.free 36) (ax_cons (px_blt 1 gl__law_shift call_lenG sd_len (I.free 8) bb_len (ax_cons (px_var 0 nm__law_shift) ax_nil)) ax_nil)) (fun _ => (gx_name 2 lc__law_shift_1 S__law_shift.nd)) (fun _ => (tx_cmp (op_neD hr.units) sd_ne (px_cmp op_isN sd_isN (px_ix (px_var 0 nm__law_shift_1) (px_var 2 nm__law_shift_1)) (px_non)) (px_cmp op_isN sd_isN (px_ix (px_var 1 nm__law_shift_1) (px_var 2 nm__law_shift_1)) (px_non)))) (fun _ => (px_var 2 nm__law_shift_1))) (blkOk_by bk__law_shift_1) S__law_shift.nd rfl) (px_lst ax_nil)) (ss_one ((st_ret [] (px_non)))) ss_nil) (ss_cons (st_set 3 [] sb__law_shift S__law_shift.nd (px_bty 2 gl__law_shift (call_dictT rfl (Nat.lt_of_le_of_lt (Nat.add_le_add_left (by decide) _) hr.units)) sd_dict (I.free 55) bb_dict (ax_cons (px_lc (lx_1 (own := [("k", 2)]) (by rfl) (ix_range1 0 gl__law_shift (I.free 36) (ax_cons (px_blt 1 gl__law_shift call_lenG sd_len (I.free 8) bb_len (ax_cons (px_var 0 nm__law_shift) ax_nil)) ax_nil)) (fun _ => (gx_name 2 lc__law_shift_2 S__law_shift.nd)) (fun _ => (tx_cmp op_notN sd_notN (px_ix (px_var 0 nm__law_shift_2) (px_var 2 nm__law_shift_2)) (px_non))) (fun _ => (px_tup (ax_cons (px_callH 0 gl__law_shift_2 (H__law_less I) ⟨rfl, rfl, rfl, rfl, rfl⟩ hg hr (by decide) takes_none5 (ax_cons (px_ix (px_var 1 nm__law_shift_2) (px_var 2 nm__law_shift_2)) (ax_cons (px_ix (px_var 0 nm__law_shift_2) (px_var 2 nm__law_shift_2)) ax_nil))) (ax_cons (px_int) ax_nil))))) (blkOk_by bk__law_shift_2) S__law_shift.nd rfl) ax_nil))) (ss_one ((st_ret [] (px_if (tx_cmp (op_eqD hr.units) sd_eq (px_blt 1 gl__law_shift call_lenG sd_len (I.free 8) bb_len (ax_cons (px_var 3 nm__law_shift) ax_nil)) (px_int)) (px_ix (px_bty 3 gl__law_shift (call_listG rfl) sd_lst (I.free 56) bb_list (ax_cons (px_var 3 nm__law_shift) ax_nil)) (px_int)) (px_non))))))))
/-! law -/
def N_law : List Str := ["script", "draws", "at", "turn", "top", "under", "one", "other", "due", "call", "count", "row", "k", "step", "shifted", "part", "bent", "bad", "odd", "rows", "reason"]
theorem S_law : FnScope N_law ["script"] (defScope st_law) := ⟨rfl, rfl, rfl, by decide +kernel, rfl, by decide +kernel, by decide +kernel⟩
theorem nm_law : nmB [0, 1, 2, 4, 5, 6, 7, 8, 10, 11, 12, 14, 16, 17, 18, 19] N_law (defScope st_law) = true := by decide +kernel
theorem lc_law : lcB [3, 4, 5] N_law (defScope st_law) = true := by decide +kernel
theorem sb_law : stB [1, 2, 8, 10, 11, 12, 13, 14, 16, 17, 18, 19] N_law (defScope st_law) = true := by decide +kernel
theorem gl_law : glB ["_law_draws", "range", "_law_whole", "repr", "_law_told", "_law_made", "_law_any", "_law_most", "_law_plus", "_law_less", "_law_order", "_law_one", "_law_scaled", "tuple", "_law_take", "len", "_law_weight", "_law_shift"] (defScope st_law) = true := by decide +kernel
def cs_law_1 : Scope := kC (kE 1 (kE 0 (kV (kS 5 (kS 2 (st_law))))))
theorem bk_law_1 : blkC N_law (defScope st_law) cs_law_1 [("call", 9)] = true := by decide +kernel
theorem nm_law_1 : nmB [6, 7, 9] N_law (relS cs_law_1 (defScope st_law)) = true := by decide +kernel
theorem lc_law_1 : lcB [9] N_law (relS cs_law_1 (defScope st_law)) = true := by decide +kernel
theorem gl_law_1 : glB ["_law_told"] (relS cs_law_1 (defScope st_law)) = true := by decide +kernel
def cs_law_2 : Scope := kC (kE 1 (kV (kS 11 (kS 2 (st_law)))))
theorem bk_law_2 : blkC N_law (defScope st_law) cs_law_2 [("k", 12)] = true := by decide +kernel
theorem nm_law_2 : nmB [1, 2] N_law (relS cs_law_2 (defScope st_law)) = true := by decide +kernel
theorem lc_law_2 : lcB [12] N_law (relS cs_law_2 (defScope st_law)) = true := by decide +kernel
theorem gl_law_2 : glB ["_law_weight"] (relS cs_law_2 (defScope st_law)) = true := by decide +kernel
def cs_law_3 : Scope := kC (kE 1 (kV (kS 13 (kS 2 (st_law)))))
theorem bk_law_3 : blkC N_law (defScope st_law) cs_law_3 [("part", 15)] = true := by decide +kernel
theorem nm_law_3 : nmB [13, 15] N_law (relS cs_law_3 (defScope st_law)) = true := by decide +kernel
theorem lc_law_3 : lcB [15] N_law (relS cs_law_3 (defScope st_law)) = true := by decide +kernel
theorem gl_law_3 : glB ["_law_plus"] (relS cs_law_3 (defScope st_law)) = true := by decide +kernel
def cs_law_4 : Scope := kC (kE 0 (kE 0 (kV (kS 16 (kS 2 (st_law))))))
theorem bk_law_4 : blkC N_law (defScope st_law) cs_law_4 [("part", 15)] = true := by decide +kernel
theorem nm_law_4 : nmB [15] N_law (relS cs_law_4 (defScope st_law)) = true := by decide +kernel
theorem lc_law_4 : lcB [15] N_law (relS cs_law_4 (defScope st_law)) = true := by decide +kernel
def cs_law_5 : Scope := kC (kE 0 (kE 0 (kV (kS 4 (st_law)))))
theorem bk_law_5 : blkC N_law (defScope st_law) cs_law_5 [("call", 9)] = true := by decide +kernel
theorem nm_law_5 : nmB [9, 17] N_law (relS cs_law_5 (defScope st_law)) = true := by decide +kernel
theorem lc_law_5 : lcB [9] N_law (relS cs_law_5 (defScope st_law)) = true := by decide +kernel
theorem gl_law_5 : glB ["_law_told"] (relS cs_law_5 (defScope st_law)) = true := by decide +kernel
def cs_law_6 : Scope := kC (kE 0 (kE 1 (kV (kS 4 (st_law)))))
theorem bk_law_6 : blkC N_law (defScope st_law) cs_law_6 [("call", 9)] = true := by decide +kernel
theorem nm_law_6 : nmB [9, 17] N_law (relS cs_law_6 (defScope st_law)) = true := by decide +kernel
theorem lc_law_6 : lcB [9] N_law (relS cs_law_6 (defScope st_law)) = true := by decide +kernel
theorem gl_law_6 : glB ["_law_told"] (relS cs_law_6 (defScope st_law)) = true := by decide +kernel
def cs_law_7 : Scope := kC (kE 1 (kV (kS 9 (st_law))))
theorem bk_law_7 : blkC N_law (defScope st_law) cs_law_7 [("reason", 20)] = true := by decide +kernel
theorem nm_law_7 : nmB [20] N_law (relS cs_law_7 (defScope st_law)) = true := by decide +kernel
theorem lc_law_7 : lcB [20] N_law (relS cs_law_7 (defScope st_law)) = true := by decide +kernel
noncomputable def l1_law : Ss → Fl := (bSeq (bPar (some 2) 4 5 (aCons (eCall 2 d__law_whole (aCons (eVar 1) (aCel aNil))) (aCons (eCall 2 d__law_whole (aCons (eVar 1) (aCel aNil))) aNil))) (bSeq (bIf (some 2) [] (tBl (eBin dNe (eArgs dRepr (aCons (eCall 3 d__law_told (aCons (eC (.int 0)) (aCons (eVar 4) (aCons (eVar 5) aNil)))) aNil)) (eArgs dRepr (aCons (eIf (tBl (eBin dEq (eVar 5) (eC (.int 0)))) (eArgs dTup (aCons (eC (.str "argument")) (aCons (eC (.str "other")) aNil))) (eCall 2 d__law_made (aCons (eVar 4) (aCons (eVar 5) aNil)))) aNil)))) ((bRet (some 2) [] (eC (.bl false)))) bNext) (bSeq (bAsg (some 2) [] [6, 7] (tTup 2 (tsCons (tName 6) (tsCons (tName 7) tsNil))) (eArgs dTup (aCons (eCall 2 d__law_any (aCons (eVar 1) (aCel aNil))) (aCons (eCall 2 d__law_any (aCons (eVar 1) (aCel aNil))) aNil)))) (bSeq (bOwn (some 2) [] 8 (aFree (aCons (eCall 1 d__law_most (aCons (eArgs dLst (aCons (eVar 6) (aCons (eVar 7) aNil))) aNil)) (aCons (eCall 2 d__law_plus (aCons (eVar 6) (aCons (eVar 7) aNil))) aNil)))) (bSeq (bApp (some 2) [] 8 (eIf (tBl (eBin dIsN (eVar 7) (eC .non))) (eArgs dTup (aCons (eC (.str "argument")) (aCons (eC (.str "other")) aNil))) (eIf (tBl (eBin dIsN (eVar 6) (eC .non))) (eC .non) (eCall 2 d__law_less (aCons (eVar 6) (aCons (eVar 7) aNil)))))) (bSeq (bFix 8 (bIf (some 2) [] (tBl (eBin dNe (eArgs dRepr (aCons (eLst (eComp [9] (tName 9) (iOf (eArgs dTup (aCons (eC (.int 1)) (aCons (eC (.int 2)) (aCons (eC (.int 3)) (aCons (eC (.int 4)) aNil)))))) mTrue (eCall 3 d__law_told (aCons (eVar 9) (aCons (eVar 6) (aCons (eVar 7) aNil)))))) aNil)) (eArgs dRepr (aCons (eBin dAdd (eVar 8) (eArgs dLst (aCons (eCall 2 d__law_order (aCons (eVar 6) (aCons (eVar 7) aNil))) aNil))) aNil)))) ((bRet (some 2) [] (eC (.bl false)))) bNext)) (bSeq (bAsg (some 2) [] [10] (tName 10) (eCall 3 d__law_one (aCons (eArgs dLst (aCons (eC (.int 0)) (aCons (eC (.int 1)) (aCons (eUn dNeg (eC (.int 1))) (aCons (eC (.int 7)) (aCons (eUn dNeg (eC (.int 30))) (aCons (eC (.int 1000000)) aNil))))))) (aCons (eVar 1) (aCel aNil))))) (bSeq (bAsg (some 2) [] [8] (tName 8) (eIf (tBl (eBin dIsN (eVar 6) (eC .non))) (eIf (tBl (eBin dLt (eVar 10) (eC (.int 0)))) (eArgs dTup (aCons (eC (.str "argument")) (aCons (eC (.str "count")) aNil))) (eIf (tBl (eBin dEq (eVar 10) (eC (.int 0)))) (eArgs dTup (aCons (eC (.int 0)) (aCons (eC (.int 1)) aNil))) (eC .non))) (eCall 3 d__law_scaled (aCons (eVar 6) (aCons (eVar 10) (aCons (eC (.int 1)) aNil)))))) (bSeq (bIf (some 2) [] (tBl (eBin dNe (eArgs dRepr (aCons (eCall 3 d__law_told (aCons (eC (.int 5)) (aCons (eVar 6) (aCons (eVar 10) aNil)))) aNil)) (eArgs dRepr (aCons (eVar 8) aNil)))) ((bRet (some 2) [] (eC (.bl false)))) bNext) (bSeq (bAsg (some 2) [] [10] (tName 10) (eCall 3 d__law_one (aCons (eArgs dLst (aCons (eC (.int 1)) (aCons (eC (.int 2)) (aCons (eC (.int 9)) (aCons (eC (.int 1000000)) aNil))))) (aCons (eVar 1) (aCel aNil))))) (bSeq (bIf (some 2) [] (tBl (eBin dNe (eArgs dRepr (aCons (eCall 3 d__law_told (aCons (eC (.int 6)) (aCons (eVar 6) (aCons (eVar 10) aNil)))) aNil)) (eArgs dRepr (aCons (eIf (tBl (eBin dIsN (eVar 6) (eC .non))) (eC .non) (eCall 3 d__law_scaled (aCons (eVar 6) (aCons (eC (.int 1)) (aCons (eVar 10) aNil))))) aNil)))) ((bRet (some 2) [] (eC (.bl false)))) bNext) (bSeq (bAsg (some 2) [] [11] (tName 11) (eArgs dTupOf (aCons (eLst (eComp [12] (tName 12) (iArgs dRange1 (aCons (eBin dAdd (eC (.int 1)) (eCall 3 d__law_take (aCons (eVar 1) (aCel (aCons (eC (.int 5)) aNil))))) aNil)) mTrue (eCall 2 d__law_weight (aCons (eVar 1) (aCel aNil))))) aNil))) (bSeq (bAsg (some 2) [] [13] (tName 13) (eCall 2 d__law_made (aCons (eBin dSub (eCall 3 d__law_take (aCons (eVar 1) (aCel (aCons (eC (.int 13)) aNil)))) (eC (.int 6))) (aCons (eC (.int 2)) aNil)))) (bSeq (bAsg (some 2) [] [14] (tName 14) (eArgs dTupOf (aCons (eLst (eComp [15] (tName 15) (iOf (eVar 11)) mTrue (eCall 2 d__law_plus (aCons (eVar 15) (aCons (eVar 13) aNil))))) aNil))) (bSeq (bAsg (some 2) [] [12] (tName 12) (eCall 3 d__law_take (aCons (eVar 1) (aCel (aCons (eArgs dLen (aCons (eVar 11) aNil)) aNil))))) (bSeq (bAsg (some 2) [] [16] (tName 16) (eCall 3 d__law_one (aCons (eArgs dLst (aCons (eVar 14) (aCons (eVar 14) (aCons (eBin dAdd (eBin dAdd (eSl (eVar 14) pNone (pSome (eVar 12))) (eArgs dTup (aCons (eCall 2 d__law_weight (aCons (eVar 1) (aCel aNil))) aNil))) (eSl (eVar 14) (pSome (eBin dAdd (eVar 12) (eC (.int 1)))) pNone)) aNil)))) (aCons (eVar 1) (aCel aNil))))) (bSeq (bAsg (some 2) [] [8] (tName 8) (eIf (tBl (eBin dEq (eLst (eComp [15] (tName 15) (iOf (eVar 11)) (tBl (eBin dNotN (eVar 15) (eC .non))) (eVar 15))) (eArgs dLst aNil))) (eArgs dTup (aCons (eC (.str "argument")) (aCons (eC (.str "row")) aNil))) (eCall 2 d__law_shift (aCons (eVar 11) (aCons (eVar 16) aNil))))) (bIf (some 2) [] (tBl (eBin dNe (eArgs dRepr (aCons (eCall 3 d__law_told (aCons (eC (.int 7)) (aCons (eVar 11) (aCons (eVar 16) aNil)))) aNil)) (eArgs dRepr (aCons (eVar 8) aNil)))) ((bRet (some 2) [] (eC (.bl false)))) bNext))))))))))))))))))
noncomputable def b_law : Ss → Fl := (bSeq (bAsg (some 2) [] [1] (tName 1) (eCall 1 d__law_draws (aCons (eVar 0) aNil))) (bSeq (bOwn (some 2) [] 2 (aFree (aCons (eC (.int 0)) aNil))) (bSeq ((bFor (some 2) [3] (tName 3) (iArgs dRange1 (aCons (eC (.int 5)) aNil)) l1_law)) (bSeq (bAsg (some 2) [] [17] (tName 17) (eCall 3 d__law_one (aCons (eArgs dLst (aCons (eC (.int 5)) (aCons (eArgs dTup (aCons (eC (.int 1)) (aCons (eC (.int 0)) aNil))) (aCons (eArgs dTup (aCons (eC (.int 2)) (aCons (eC (.int 4)) aNil))) (aCons (eArgs dTup (aCons (eC (.int 1)) (aCons (eUn dNeg (eC (.int 2))) aNil))) (aCons (eArgs dTup (aCons (eC (.bl true)) (aCons (eC (.int 1)) aNil))) (aCons (eArgs dTup (aCons (eC (.int 1)) aNil)) (aCons (eArgs dTup (aCons (eC (.int 1000001)) (aCons (eC (.int 1)) aNil))) (aCons (eArgs dTup (aCons (eC (.int 1)) (aCons (eC (.int 1000001)) aNil))) (aCons (eC (.str "1")) aNil)))))))))) (aCons (eVar 1) (aCel aNil))))) (bSeq (bIf (some 2) [] ((G.tOr (tBl (eBin dNe (eLst (eComp [9] (tName 9) (iOf (eArgs dTup (aCons (eC (.int 1)) (aCons (eC (.int 2)) (aCons (eC (.int 3)) (aCons (eC (.int 4)) (aCons (eC (.int 5)) (aCons (eC (.int 6)) aNil)))))))) mTrue (eCall 3 d__law_told (aCons (eVar 9) (aCons (eVar 17) (aCons (eArgs dTup (aCons (eC (.int 1)) (aCons (eC (.int 2)) aNil))) aNil)))))) (eBin dMul (eArgs dLst (aCons (eArgs dTup (aCons (eC (.str "argument")) (aCons (eC (.str "one")) aNil))) aNil)) (eC (.int 6))))) (tBl (eBin dNe (eLst (eComp [9] (tName 9) (iOf (eArgs dTup (aCons (eC (.int 1)) (aCons (eC (.int 2)) (aCons (eC (.int 3)) (aCons (eC (.int 4)) aNil)))))) mTrue (eCall 3 d__law_told (aCons (eVar 9) (aCons (eArgs dTup (aCons (eC (.int 1)) (aCons (eC (.int 2)) aNil))) (aCons (eVar 17) aNil)))))) (eBin dMul (eArgs dLst (aCons (eArgs dTup (aCons (eC (.str "argument")) (aCons (eC (.str "other")) aNil))) aNil)) (eC (.int 4))))))) ((bRet (some 2) [] (eC (.bl false)))) bNext) (bSeq (bAsg (some 2) [] [18] (tName 18) (eCall 3 d__law_one (aCons (eArgs dLst (aCons (eC .non) (aCons (eC (.bl true)) (aCons (eC (.int 1000001)) (aCons (eC (.str "1")) (aCons (eArgs dTup (aCons (eC (.int 1)) (aCons (eC (.int 1)) aNil))) aNil)))))) (aCons (eVar 1) (aCel aNil))))) (bSeq (bAsg (some 2) [] [19] (tName 19) (eArgs dLst (aCons (eCall 3 d__law_told (aCons (eC (.int 0)) (aCons (eVar 18) (aCons (eC (.int 0)) aNil)))) (aCons (eCall 3 d__law_told (aCons (eC (.int 0)) (aCons (eC (.int 1)) (aCons (eVar 18) aNil)))) (aCons (eCall 3 d__law_told (aCons (eC (.int 5)) (aCons (eArgs dTup (aCons (eC (.int 1)) (aCons (eC (.int 1)) aNil))) (aCons (eVar 18) aNil)))) (aCons (eCall 3 d__law_told (aCons (eC (.int 6)) (aCons (eArgs dTup (aCons (eC (.int 1)) (aCons (eC (.int 1)) aNil))) (aCons (eCall 3 d__law_one (aCons (eArgs dLst (aCons (eC (.int 0)) (aCons (eUn dNeg (eC (.int 1))) (aCons (eVar 18) aNil)))) (aCons (eVar 1) (aCel aNil)))) aNil)))) aNil)))))) (bSeq (bAsg (some 2) [] [19] (tName 19) (eBin dAdd (eVar 19) (eArgs dLst (aCons (eCall 3 d__law_told (aCons (eC (.int 7)) (aCons (eCall 3 d__law_one (aCons (eArgs dLst (aCons (eC .non) (aCons (eArgs dTup aNil) (aCons (eArgs dTup (aCons (eC .non) (aCons (eC .non) aNil))) (aCons (eBin dMul (eArgs dTup (aCons (eArgs dTup (aCons (eC (.int 1)) (aCons (eC (.int 1)) aNil))) aNil)) (eC (.int 65))) (aCons (eArgs dTup (aCons (eVar 17) aNil)) (aCons (eArgs dLst (aCons (eArgs dTup (aCons (eC (.int 1)) (aCons (eC (.int 1)) aNil))) aNil)) aNil))))))) (aCons (eVar 1) (aCel aNil)))) (aCons (eArgs dTup (aCons (eArgs dTup (aCons (eC (.int 1)) (aCons (eC (.int 1)) aNil))) aNil)) aNil)))) aNil)))) (bSeq (bAsg (some 2) [] [19] (tName 19) (eBin dAdd (eVar 19) (eArgs dLst (aCons (eCall 3 d__law_told (aCons (eC (.int 7)) (aCons (eArgs dTup (aCons (eArgs dTup (aCons (eC (.int 1)) (aCons (eC (.int 1)) aNil))) (aCons (eC .non) aNil))) (aCons (eCall 3 d__law_one (aCons (eArgs dLst (aCons (eC .non) (aCons (eArgs dTup (aCons (eArgs dTup (aCons (eC (.int 1)) (aCons (eC (.int 1)) aNil))) aNil)) (aCons (eArgs dTup (aCons (eC .non) (aCons (eVar 17) aNil))) aNil)))) (aCons (eVar 1) (aCel aNil)))) aNil)))) aNil)))) ((bRet (some 2) [] (eBin dEq (eVar 19) (eLst (eComp [20] (tName 20) (iOf (eArgs dLst (aCons (eC (.str "number")) (aCons (eC (.str "other")) (aCons (eC (.str "count")) (aCons (eC (.str "count")) (aCons (eC (.str "row")) (aCons (eC (.str "other")) aNil)))))))) mTrue (eArgs dTup (aCons (eC (.str "argument")) (aCons (eVar 20) aNil)))))))))))))))))
noncomputable def d_law : List D → Kp → Out D := fdef 21 (some 2) false b_law
theorem H_law {m : Mo} (I : InA m fa fn fx fi) : Has m 9 "law" ["script"] d_law :=
  has_of (N := N_law) (cs := (some 2)) (cp := false) (b := b_law) (d := D_law) I 44 59 S_law (fun _ _ _ _ _ _ us hl => match us, hl with | [_], _ => rfl) (fun cdv A outer s H E hg hr tk hp => by
    unfold b_law
    exact (ss_cons (st_set 1 [] sb_law S_law.nd (px_callH 0 gl_law (H__law_draws I) ⟨rfl, rfl, rfl, rfl, rfl⟩ hg hr (by decide) tk (ax_cons (px_var 0 nm_law) ax_nil))) (ss_cons (st_own 2 [] sb_law S_law.nd (fx_lst (ax_cons (px_int) ax_nil))) (ss_cons ((st_for (vs := [3]) hp rfl (ix_range1 1 gl_law (I.free 36) (ax_cons (px_int) ax_nil)) (gx_name 3 lc_law S_law.nd) (ss_cons (st_par 4 5 lc_law S_law.nd rfl (ax_cons (px_callH 2 gl_law (H__law_whole I) ⟨rfl, rfl, rfl, rfl, rfl⟩ hg hr (by decide) tk (ax_cons (px_var 1 nm_law) (ax_cel 2 nm_law rfl ax_nil))) (ax_cons (px_callH 2 gl_law (H__law_whole I) ⟨rfl, rfl, rfl, rfl, rfl⟩ hg hr (by decide) tk (ax_cons (px_var 1 nm_law) (ax_cel 2 nm_law rfl ax_nil))) ax_nil))) (ss_cons (st_if [] (tx_cmp (op_neD hr.units) sd_ne (px_blt 3 gl_law (call_show hg hr.units) sd_repr (I.free 58) bb_repr (ax_cons (px_callH 4 gl_law (H__law_told I) ⟨rfl, rfl, rfl, rfl, rfl⟩ hg hr (by decide) tk (ax_cons (px_int) (ax_cons (px_var 4 nm_law) (ax_cons (px_var 5 nm_law) ax_nil)))) ax_nil)) (px_blt 3 gl_law (call_show hg hr.units) sd_repr (I.free 58) bb_repr (ax_cons (px_if (tx_cmp (op_eqD hr.units) sd_eq (px_var 5 nm_law) (px_int)) (px_tup (ax_cons (px_str) (ax_cons (px_str) ax_nil))) (px_callH 5 gl_law (H__law_made I) ⟨rfl, rfl, rfl, rfl, rfl⟩ hg hr (by decide) tk (ax_cons (px_var 4 nm_law) (ax_cons (px_var 5 nm_law) ax_nil)))) ax_nil))) (ss_one ((st_ret [] (px_bl)))) ss_nil) (ss_cons (st_tup (vs := [6, 7]) [] (px_tup (ax_cons (px_callH 6 gl_law (H__law_any I) ⟨rfl, rfl, rfl, rfl, rfl⟩ hg hr (by decide) tk (ax_cons (px_var 1 nm_law) (ax_cel 2 nm_law rfl ax_nil))) (ax_cons (px_callH 6 gl_law (H__law_any I) ⟨rfl, rfl, rfl, rfl, rfl⟩ hg hr (by decide) tk (ax_cons (px_var 1 nm_law) (ax_cel 2 nm_law rfl ax_nil))) ax_nil))) (gx_tup rfl (gsx_cons (gx_nameC 6 nm_law S_law.nd (by decide +kernel)) (gsx_cons (gx_nameC 7 nm_law S_law.nd (by decide +kernel)) gsx_nil)))) (ss_cons (st_own 8 [] sb_law S_law.nd (fx_lst (ax_cons (px_callH 7 gl_law (H__law_most I) ⟨rfl, rfl, rfl, rfl, rfl⟩ hg hr (by decide) tk (ax_cons (px_lst (ax_cons (px_var 6 nm_law) (ax_cons (px_var 7 nm_law) ax_nil))) ax_nil)) (ax_cons (px_callH 8 gl_law (H__law_plus I) ⟨rfl, rfl, rfl, rfl, rfl⟩ hg hr (by decide) tk (ax_cons (px_var 6 nm_law) (ax_cons (px_var 7 nm_law) ax_nil))) ax_nil)))) (ss_cons (st_app 8 [] nm_law (px_if (tx_cmp op_isN sd_isN (px_var 7 nm_law) (px_non)) (px_tup (ax_cons (px_str) (ax_cons (px_str) ax_nil))) (px_if (tx_cmp op_isN sd_isN (px_var 6 nm_law) (px_non)) (px_non) (px_callH 9 gl_law (H__law_less I) ⟨rfl, rfl, rfl, rfl, rfl⟩ hg hr (by decide) tk (ax_cons (px_var 6 nm_law) (ax_cons (px_var 7 nm_law) ax_nil)))))) (ss_cons (st_fix 8 (st_if [] (tx_cmp (op_neD hr.units) sd_ne (px_blt 3 gl_law (call_show hg hr.units) sd_repr (I.free 58) bb_repr (ax_cons (px_lc (lx_0 (own := [("call", 9)]) (by rfl) (ix_any (px_tup (ax_cons (px_int) (ax_cons (px_int) (ax_cons (px_int) (ax_cons (px_int) ax_nil)))))) (fun _ => (gx_name 9 lc_law_1 S_law.nd)) (fun _ => (px_callH 0 gl_law_1 (H__law_told I) ⟨rfl, rfl, rfl, rfl, rfl⟩ hg hr (by decide) takes_none5 (ax_cons (px_var 9 nm_law_1) (ax_cons (px_var 6 nm_law_1) (ax_cons (px_var 7 nm_law_1) ax_nil)))))) (blkOk_by bk_law_1) S_law.nd rfl) ax_nil)) (px_blt 3 gl_law (call_show hg hr.units) sd_repr (I.free 58) bb_repr (ax_cons (px_bin op_addG sd_add (px_var 8 nm_law) (px_lst (ax_cons (px_callH 10 gl_law (H__law_order I) ⟨rfl, rfl, rfl, rfl, rfl⟩ hg hr (by decide) tk (ax_cons (px_var 6 nm_law) (ax_cons (px_var 7 nm_law) ax_nil))) ax_nil))) ax_nil))) (ss_one ((st_ret [] (px_bl)))) ss_nil)) (ss_cons (st_set 10 [] sb_law S_law.nd (px_callH 11 gl_law (H__law_one I) ⟨rfl, rfl, rfl, rfl, rfl⟩ hg hr (by decide) tk (ax_cons (px_lst (ax_cons (px_int) (ax_cons (px_int) (ax_cons (px_un un_neg sd_neg (px_int)) (ax_cons (px_int) (ax_cons (px_un un_neg sd_neg (px_int)) (ax_cons (px_int) ax_nil))))))) (ax_cons (px_var 1 nm_law) (ax_cel 2 nm_law rfl ax_nil))))) (ss_cons (st_set 8 [] sb_law S_law.nd (px_if (tx_cmp op_isN sd_isN (px_var 6 nm_law) (px_non)) (px_if (tx_cmp op_lt (sd_cmp _) (px_var 10 nm_law) (px_int)) (px_tup (ax_cons (px_str) (ax_cons (px_str) ax_nil))) (px_if (tx_cmp (op_eqD hr.units) sd_eq (px_var 10 nm_law) (px_int)) (px_tup (ax_cons (px_int) (ax_cons (px_int) ax_nil))) (px_non))) (px_callH 12 gl_law (H__law_scaled I) ⟨rfl, rfl, rfl, rfl, rfl⟩ hg hr (by decide) tk (ax_cons (px_var 6 nm_law) (ax_cons (px_var 10 nm_law) (ax_cons (px_int) ax_nil)))))) (ss_cons (st_if [] (tx_cmp (op_neD hr.units) sd_ne (px_blt 3 gl_law (call_show hg hr.units) sd_repr (I.free 58) bb_repr (ax_cons (px_callH 4 gl_law (H__law_told I) ⟨rfl, rfl, rfl, rfl, rfl⟩ hg hr (by decide) tk (ax_cons (px_int) (ax_cons (px_var 6 nm_law) (ax_cons (px_var 10 nm_law) ax_nil)))) ax_nil)) (px_blt 3 gl_law (call_show hg hr.units) sd_repr (I.free 58) bb_repr (ax_cons (px_var 8 nm_law) ax_nil))) (ss_one ((st_ret [] (px_bl)))) ss_nil) (ss_cons (st_set 10 [] sb_law S_law.nd (px_callH 11 gl_law (H__law_one I) ⟨rfl, rfl, rfl, rfl, rfl⟩ hg hr (by decide) tk (ax_cons (px_lst (ax_cons (px_int) (ax_cons (px_int) (ax_cons (px_int) (ax_cons (px_int) ax_nil))))) (ax_cons (px_var 1 nm_law) (ax_cel 2 nm_law rfl ax_nil))))) (ss_cons (st_if [] (tx_cmp (op_neD hr.units) sd_ne (px_blt 3 gl_law (call_show hg hr.units) sd_repr (I.free 58) bb_repr (ax_cons (px_callH 4 gl_law (H__law_told I) ⟨rfl, rfl, rfl, rfl, rfl⟩ hg hr (by decide) tk (ax_cons (px_int) (ax_cons (px_var 6 nm_law) (ax_cons (px_var 10 nm_law) ax_nil)))) ax_nil)) (px_blt 3 gl_law (call_show hg hr.units) sd_repr (I.free 58) bb_repr (ax_cons (px_if (tx_cmp op_isN sd_isN (px_var 6 nm_law) (px_non)) (px_non) (px_callH 12 gl_law (H__law_scaled I) ⟨rfl, rfl, rfl, rfl, rfl⟩ hg hr (by decide) tk (ax_cons (px_var 6 nm_law) (ax_cons (px_int) (ax_cons (px_var 10 nm_law) ax_nil))))) ax_nil))) (ss_one ((st_ret [] (px_bl)))) ss_nil) (ss_cons (st_set 11 [] sb_law S_law.nd (px_bty 13 gl_law call_tuple_of sd_tup (I.free 7) bb_tuple (ax_cons (px_lc (lx_0 (own := [("k", 12)]) (by rfl) (ix_range1 1 gl_law (I.free 36) (ax_cons (px_bin op_addG sd_add (px_int) (px_callH 14 gl_law (H__law_take I) ⟨rfl, rfl, rfl, rfl, rfl⟩ hg hr (by decide) tk (ax_cons (px_var 1 nm_law) (ax_cel 2 nm_law rfl (ax_cons (px_int) ax_nil))))) ax_nil)) (fun _ => (gx_name 12 lc_law_2 S_law.nd)) (fun _ => (px_callH 0 gl_law_2 (H__law_weight I) ⟨rfl, rfl, rfl, rfl, rfl⟩ hg hr (by decide) takes_none5 (ax_cons (px_var 1 nm_law_2) (ax_cel 2 nm_law_2 rfl ax_nil))))) (blkOk_by bk_law_2) S_law.nd rfl) ax_nil))) (ss_cons (st_set 13 [] sb_law S_law.nd (px_callH 5 gl_law (H__law_made I) ⟨rfl, rfl, rfl, rfl, rfl⟩ hg hr (by decide) tk (ax_cons (px_bin op_subG sd_sub (px_callH 14 gl_law (H__law_take I) ⟨rfl, rfl, rfl, rfl, rfl⟩ hg hr (by decide) tk (ax_cons (px_var 1 nm_law) (ax_cel 2 nm_law rfl (ax_cons (px_int) ax_nil)))) (px_int)) (ax_cons (px_int) ax_nil)))) (ss_cons (st_set 14 [] sb_law S_law.nd (px_bty 13 gl_law call_tuple_of sd_tup (I.free 7) bb_tuple (ax_cons (px_lc (lx_0 (own := [("part", 15)]) (by rfl) (ix_any (px_var 11 nm_law)) (fun _ => (gx_name 15 lc_law_3 S_law.nd)) (fun _ => (px_callH 0 gl_law_3 (H__law_plus I) ⟨rfl, rfl, rfl, rfl, rfl⟩ hg hr (by decide) takes_none5 (ax_cons (px_var 15 nm_law_3) (ax_cons (px_var 13 nm_law_3) ax_nil))))) (blkOk_by bk_law_3) S_law.nd rfl) ax_nil))) (ss_cons (st_set 12 [] sb_law S_law.nd (px_callH 14 gl_law (H__law_take I) ⟨rfl, rfl, rfl, rfl, rfl⟩ hg hr (by decide) tk (ax_cons (px_var 1 nm_law) (ax_cel 2 nm_law rfl (ax_cons (px_blt 15 gl_law call_lenG sd_len (I.free 8) bb_len (ax_cons (px_var 11 nm_law) ax_nil)) ax_nil))))) (ss_cons (st_set 16 [] sb_law S_law.nd (px_callH 11 gl_law (H__law_one I) ⟨rfl, rfl, rfl, rfl, rfl⟩ hg hr (by decide) tk (ax_cons (px_lst (ax_cons (px_var 14 nm_law) (ax_cons (px_var 14 nm_law) (ax_cons (px_bin op_addG sd_add (px_bin op_addG sd_add (px_sl (px_var 14 nm_law) ox_none (ox_some (px_var 12 nm_law))) (px_tup (ax_cons (px_callH 16 gl_law (H__law_weight I) ⟨rfl, rfl, rfl, rfl, rfl⟩ hg hr (by decide) tk (ax_cons (px_var 1 nm_law) (ax_cel 2 nm_law rfl ax_nil))) ax_nil))) (px_sl (px_var 14 nm_law) (ox_some (px_bin op_addG sd_add (px_var 12 nm_law) (px_int))) ox_none)) ax_nil)))) (ax_cons (px_var 1 nm_law) (ax_cel 2 nm_law rfl ax_nil))))) (ss_cons (st_set 8 [] sb_law S_law.nd (px_if (tx_cmp (op_eqD hr.units) sd_eq (px_lc (lx_1 (own := [("part", 15)]) (by rfl) (ix_any (px_var 11 nm_law)) (fun _ => (gx_name 15 lc_law_4 S_law.nd)) (fun _ => (tx_cmp op_notN sd_notN (px_var 15 nm_law_4) (px_non))) (fun _ => (px_var 15 nm_law_4))) (blkOk_by bk_law_4) S_law.nd rfl) (px_lst ax_nil)) (px_tup (ax_cons (px_str) (ax_cons (px_str) ax_nil))) (px_callH 17 gl_law (H__law_shift I) ⟨rfl, rfl, rfl, rfl, rfl⟩ hg hr (by decide) tk (ax_cons (px_var 11 nm_law) (ax_cons (px_var 16 nm_law) ax_nil))))) (ss_one (st_if [] (tx_cmp (op_neD hr.units) sd_ne (px_blt 3 gl_law (call_show hg hr.units) sd_repr (I.free 58) bb_repr (ax_cons (px_callH 4 gl_law (H__law_told I) ⟨rfl, rfl, rfl, rfl, rfl⟩ hg hr (by decide) tk (ax_cons (px_int) (ax_cons (px_var 11 nm_law) (ax_cons (px_var 16 nm_law) ax_nil)))) ax_nil)) (px_blt 3 gl_law (call_show hg hr.units) sd_repr (I.free 58) bb_repr (ax_cons (px_var 8 nm_law) ax_nil))) (ss_one ((st_ret [] (px_bl)))) ss_nil))))))))))))))))))))) (ss_cons (st_set 17 [] sb_law S_law.nd (px_callH 11 gl_law (H__law_one I) ⟨rfl, rfl, rfl, rfl, rfl⟩ hg hr (by decide) tk (ax_cons (px_lst (ax_cons (px_int) (ax_cons (px_tup (ax_cons (px_int) (ax_cons (px_int) ax_nil))) (ax_cons (px_tup (ax_cons (px_int) (ax_cons (px_int) ax_nil))) (ax_cons (px_tup (ax_cons (px_int) (ax_cons (px_un un_neg sd_neg (px_int)) ax_nil))) (ax_cons (px_tup (ax_cons (px_bl) (ax_cons (px_int) ax_nil))) (ax_cons (px_tup (ax_cons (px_int) ax_nil)) (ax_cons (px_tup (ax_cons (px_int) (ax_cons (px_int) ax_nil))) (ax_cons (px_tup (ax_cons (px_int) (ax_cons (px_int) ax_nil))) (ax_cons (px_str) ax_nil)))))))))) (ax_cons (px_var 1 nm_law) (ax_cel 2 nm_law rfl ax_nil))))) (ss_cons (st_if [] (tx_w (wx_or (tx_cmp (op_neD hr.units) sd_ne (px_lc (lx_0 (own := [("call", 9)]) (by rfl) (ix_any (px_tup (ax_cons (px_int) (ax_cons (px_int) (ax_cons (px_int) (ax_cons (px_int) (ax_cons (px_int) (ax_cons (px_int) ax_nil)))))))) (fun _ => (gx_name 9 lc_law_5 S_law.nd)) (fun _ => (px_callH 0 gl_law_5 (H__law_told I) ⟨rfl, rfl, rfl, rfl, rfl⟩ hg hr (by decide) takes_none5 (ax_cons (px_var 9 nm_law_5) (ax_cons (px_var 17 nm_law_5) (ax_cons (px_tup (ax_cons (px_int) (ax_cons (px_int) ax_nil))) ax_nil)))))) (blkOk_by bk_law_5) S_law.nd rfl) (px_bin op_mulG sd_mul (px_lst (ax_cons (px_tup (ax_cons (px_str) (ax_cons (px_str) ax_nil))) ax_nil)) (px_int))) (wx_or1 (tx_cmp (op_neD hr.units) sd_ne (px_lc (lx_0 (own := [("call", 9)]) (by rfl) (ix_any (px_tup (ax_cons (px_int) (ax_cons (px_int) (ax_cons (px_int) (ax_cons (px_int) ax_nil)))))) (fun _ => (gx_name 9 lc_law_6 S_law.nd)) (fun _ => (px_callH 0 gl_law_6 (H__law_told I) ⟨rfl, rfl, rfl, rfl, rfl⟩ hg hr (by decide) takes_none5 (ax_cons (px_var 9 nm_law_6) (ax_cons (px_tup (ax_cons (px_int) (ax_cons (px_int) ax_nil))) (ax_cons (px_var 17 nm_law_6) ax_nil)))))) (blkOk_by bk_law_6) S_law.nd rfl) (px_bin op_mulG sd_mul (px_lst (ax_cons (px_tup (ax_cons (px_str) (ax_cons (px_str) ax_nil))) ax_nil)) (px_int)))))) (ss_one ((st_ret [] (px_bl)))) ss_nil) (ss_cons (st_set 18 [] sb_law S_law.nd (px_callH 11 gl_law (H__law_one I) ⟨rfl, rfl, rfl, rfl, rfl⟩ hg hr (by decide) tk (ax_cons (px_lst (ax_cons (px_non) (ax_cons (px_bl) (ax_cons (px_int) (ax_cons (px_str) (ax_cons (px_tup (ax_cons (px_int) (ax_cons (px_int) ax_nil))) ax_nil)))))) (ax_cons (px_var 1 nm_law) (ax_cel 2 nm_law rfl ax_nil))))) (ss_cons (st_set 19 [] sb_law S_law.nd (px_lst (ax_cons (px_callH 4 gl_law (H__law_told I) ⟨rfl, rfl, rfl, rfl, rfl⟩ hg hr (by decide) tk (ax_cons (px_int) (ax_cons (px_var 18 nm_law) (ax_cons (px_int) ax_nil)))) (ax_cons (px_callH 4 gl_law (H__law_told I) ⟨rfl, rfl, rfl, rfl, rfl⟩ hg hr (by decide) tk (ax_cons (px_int) (ax_cons (px_int) (ax_cons (px_var 18 nm_law) ax_nil)))) (ax_cons (px_callH 4 gl_law (H__law_told I) ⟨rfl, rfl, rfl, rfl, rfl⟩ hg hr (by decide) tk (ax_cons (px_int) (ax_cons (px_tup (ax_cons (px_int) (ax_cons (px_int) ax_nil))) (ax_cons (px_var 18 nm_law) ax_nil)))) (ax_cons (px_callH 4 gl_law (H__law_told I) ⟨rfl, rfl, rfl, rfl, rfl⟩ hg hr (by decide) tk (ax_cons (px_int) (ax_cons (px_tup (ax_cons (px_int) (ax_cons (px_int) ax_nil))) (ax_cons (px_callH 11 gl_law (H__law_one I) ⟨rfl, rfl, rfl, rfl, rfl⟩ hg hr (by decide) tk (ax_cons (px_lst (ax_cons (px_int) (ax_cons (px_un un_neg sd_neg (px_int)) (ax_cons (px_var 18 nm_law) ax_nil)))) (ax_cons (px_var 1 nm_law) (ax_cel 2 nm_law rfl ax_nil)))) ax_nil)))) ax_nil)))))) (ss_cons (st_set 19 [] sb_law S_law.nd (px_bin op_addG sd_add (px_var 19 nm_law) (px_lst (ax_cons (px_callH 4 gl_law (H__law_told I) ⟨rfl, rfl, rfl, rfl, rfl⟩ hg hr (by decide) tk (ax_cons (px_int) (ax_cons (px_callH 11 gl_law (H__law_one I) ⟨rfl, rfl, rfl, rfl, rfl⟩ hg hr (by decide) tk (ax_cons (px_lst (ax_cons (px_non) (ax_cons (px_tup ax_nil) (ax_cons (px_tup (ax_cons (px_non) (ax_cons (px_non) ax_nil))) (ax_cons (px_bin op_mulG sd_mul (px_tup (ax_cons (px_tup (ax_cons (px_int) (ax_cons (px_int) ax_nil))) ax_nil)) (px_int)) (ax_cons (px_tup (ax_cons (px_var 17 nm_law) ax_nil)) (ax_cons (px_lst (ax_cons (px_tup (ax_cons (px_int) (ax_cons (px_int) ax_nil))) ax_nil)) ax_nil))))))) (ax_cons (px_var 1 nm_law) (ax_cel 2 nm_law rfl ax_nil)))) (ax_cons (px_tup (ax_cons (px_tup (ax_cons (px_int) (ax_cons (px_int) ax_nil))) ax_nil)) ax_nil)))) ax_nil)))) (ss_cons (st_set 19 [] sb_law S_law.nd (px_bin op_addG sd_add (px_var 19 nm_law) (px_lst (ax_cons (px_callH 4 gl_law (H__law_told I) ⟨rfl, rfl, rfl, rfl, rfl⟩ hg hr (by decide) tk (ax_cons (px_int) (ax_cons (px_tup (ax_cons (px_tup (ax_cons (px_int) (ax_cons (px_int) ax_nil))) (ax_cons (px_non) ax_nil))) (ax_cons (px_callH 11 gl_law (H__law_one I) ⟨rfl, rfl, rfl, rfl, rfl⟩ hg hr (by decide) tk (ax_cons (px_lst (ax_cons (px_non) (ax_cons (px_tup (ax_cons (px_tup (ax_cons (px_int) (ax_cons (px_int) ax_nil))) ax_nil)) (ax_cons (px_tup (ax_cons (px_non) (ax_cons (px_var 17 nm_law) ax_nil))) ax_nil)))) (ax_cons (px_var 1 nm_law) (ax_cel 2 nm_law rfl ax_nil)))) ax_nil)))) ax_nil)))) (ss_one ((st_ret [] (px_cmp (op_eqD hr.units) sd_eq (px_var 19 nm_law) (px_lc (lx_0 (own := [("reason", 20)]) (by rfl) (ix_any (px_lst (ax_cons (px_str) (ax_cons (px_str) (ax_cons (px_str) (ax_cons (px_str) (ax_cons (px_str) (ax_cons (px_str) ax_nil)))))))) (fun _ => (gx_name 20 lc_law_7 S_law.nd)) (fun _ => (px_tup (ax_cons (px_str) (ax_cons (px_var 20 nm_law_7) ax_nil))))) (blkOk_by bk_law_7) S_law.nd rfl)))))))))))))))
end LW

set_option Elab.async false
set_option linter.all false
set_option maxRecDepth 100000
namespace LW
open PySem PySem.Spec PyProof.Rows L2 RZ GXS He GH G
/-! ### the draws -/
theorem fmod_pos {i j : Int} (h : 0 < j) : 0 ≤ i.fmod j ∧ i.fmod j < j := by
  rw [emod_of h]
  exact ⟨Int.emod_nonneg _ (by omega), Int.emod_lt_of_pos _ h⟩
theorem fdiv_pos {i j : Int} (h : 0 < j) (hi : 0 ≤ i) : 0 ≤ i.fdiv j := by
  rw [ediv_of h]
  exact Int.ediv_nonneg hi (by omega)
theorem more_1 (xs : List Int) (place : Int) (hp : 0 ≤ place) (hx : ∀ x ∈ xs, 0 ≤ x) : ∃ v, 0 ≤ v ∧ d__law_more [.lst (xs.map .int), .int place] none = .ok (.int v) none := by
  have e : d__law_more [.lst (xs.map .int), .int place] none = (match b__law_more ⟨[some (.lst (xs.map .int)), some (.int place), none, none], [none, none, none, none]⟩ with
    | .nx s' => .ok .non none
    | .rt d s' => .ok d none
    | .er x s' => .er x none
    | _ => .bad) := rfl
  rw [e]
  clear e
  have lp : ∀ mx, 0 ≤ mx → ∃ s', forGo [3] (tName 3) l1__law_more (rangeD 0 3) ⟨[some (.lst (xs.map .int)), some (.int place), some (.int mx), none], [none, none, none, none]⟩ = .nx s' ∧
      ∃ mx o, s' = ⟨[some (.lst (xs.map .int)), some (.int place), some (.int mx), o], [none, none, none, none]⟩ ∧ 0 ≤ mx := by
    intro mx hmx
    refine for_inv (fun _ s => ∃ mx o, s = ⟨[some (.lst (xs.map .int)), some (.int place), some (.int mx), o], [none, none, none, none]⟩ ∧ 0 ≤ mx) (rangeD 0 3) 0 _ ⟨mx, none, rfl, hmx⟩ ?_
    rintro j d s hd ⟨mx, o, rfl, hm⟩
    obtain ⟨rfl, hj⟩ := range_at hd
    refine ⟨_, rfl, ?_⟩
    unfold l1__law_more
    by_cases hne : xs = []
    · subst hne
      refine ⟨⟨[some (.lst []), some (.int place), some (.int ((mx * 16807 + 69621 * (0 + (j : Nat)) + 5).fmod 2147483629)), some (.int (0 + (j : Nat)))], [none, none, none, none]⟩, ?_, _, _, rfl, (fmod_pos (by decide)).1⟩
      simp [Ss.asg, wipeD, dMul_r, dMul_l]
    · have hl : 0 < (xs.length : Int) := by
        have := List.length_pos_iff.mpr hne
        omega
      obtain ⟨v, hv, ix⟩ := ints_at (xs := xs) (fmod_pos (i := place * (0 + (j : Nat) + 5) + (0 + (j : Nat))) hl).1 (fmod_pos hl).2
      refine ⟨⟨[some (.lst (xs.map .int)), some (.int place), some (.int (((mx + v) * 16807 + 69621 * (0 + (j : Nat)) + 5).fmod 2147483629)), some (.int (0 + (j : Nat)))], [none, none, none, none]⟩, ?_, _, _, rfl, (fmod_pos (by decide)).1⟩
      have m1 : dMul (.int place) (.int ((j : Int) + 5)) = some (.int (place * ((j : Int) + 5))) := dMul_r (by omega)
      simp only [Int.zero_add] at ix
      have hl' : (xs.length : Int) ≠ 0 := by omega
      have hl2 : ¬ xs.length = 0 := by omega
      simp [Ss.asg, wipeD, dMul_r, dMul_l, m1, ix, hne, hl', hl2]
  unfold b__law_more
  obtain ⟨s', h1, mx, o, rfl, h2⟩ := lp ((place * 48271 + xs.length + 11).fmod 2147483629) (fmod_pos (by decide)).1
  refine ⟨mx.fdiv 1009, fdiv_pos (by decide) h2, ?_⟩
  simp [Ss.asg, wipeD, dMul_r, dMul_l, dRange_i, h1, dDiv_i, divOk]
theorem take_1 (xs : List Int) (p m : Int) (hm : 0 < m) (hp : 0 ≤ p) (hx : ∀ x ∈ xs, 0 ≤ x) : ∃ v, 0 ≤ v ∧ v < m ∧ d__law_take [.lst (xs.map .int), .cel, .int m] (some [.int p]) = .ok (.int v) (some [.int (p + 1)]) := by
  have e : d__law_take [.lst (xs.map .int), .cel, .int m] (some [.int p]) = (match b__law_take ⟨[some (.lst (xs.map .int)), none, some (.int m), none], [none, some (.lst [.int p]), none, none]⟩ with
    | .nx s' => .ok .non (s'.cell (some 1) [])
    | .rt d s' => .ok d (s'.cell (some 1) [])
    | .er x s' => .er x (s'.cell (some 1) [])
    | _ => .bad) := rfl
  rw [e]
  clear e
  unfold b__law_take
  have hm0 : m ≠ 0 := by omega
  by_cases hl : p < xs.length
  · obtain ⟨v, hv, ix⟩ := ints_at hp hl
    refine ⟨v.fmod m, (fmod_pos hm).1, (fmod_pos hm).2, ?_⟩
    have ix' : dIx (D.lst (List.map D.int xs)) (D.int p) = some (D.int v) := ix
    simp [eR, mrg, Ss.cell, Ss.put, Ss.lst, Ss.asg, Ss.wr, Ss.fix, Ss.own, wipeD, atI, ixN, D.free, D.frees, Kp.free, hl, ix', hm0, dIx_lst]
  · obtain ⟨v, hv, mo⟩ := more_1 xs p hp hx
    refine ⟨v.fmod m, (fmod_pos hm).1, (fmod_pos hm).2, ?_⟩
    simp [eR, mrg, Ss.cell, Ss.put, Ss.lst, Ss.asg, Ss.wr, Ss.fix, Ss.own, wipeD, atI, ixN, D.free, D.frees, Kp.free, hl, hm0, dIx_lst, callK, mo]
theorem one_1 (rows : List D) (xs : List Int) (p : Int) (hr : rows ≠ []) (hp : 0 ≤ p) (hx : ∀ x ∈ xs, 0 ≤ x) : ∃ r, r ∈ rows ∧ d__law_one [.lst rows, .lst (xs.map .int), .cel] (some [.int p]) = .ok r (some [.int (p + 1)]) := by
  have e : d__law_one [.lst rows, .lst (xs.map .int), .cel] (some [.int p]) = (match b__law_one ⟨[some (.lst rows), some (.lst (xs.map .int)), none], [none, none, some (.lst [.int p])]⟩ with
    | .nx s' => .ok .non (s'.cell (some 2) [])
    | .rt d s' => .ok d (s'.cell (some 2) [])
    | .er x s' => .er x (s'.cell (some 2) [])
    | _ => .bad) := rfl
  rw [e]
  clear e
  have hl : 0 < (rows.length : Int) := by
    have := List.length_pos_iff.mpr hr
    omega
  obtain ⟨v, h1, h2, tk⟩ := take_1 xs p rows.length hl hp hx
  have hv : v.toNat < rows.length := by omega
  have ix : dIx (.lst rows) (.int v) = some rows[v.toNat] := dIx_lst h1 (List.getElem?_eq_getElem hv)
  refine ⟨rows[v.toNat], List.getElem_mem hv, ?_⟩
  unfold b__law_one
  simp [Ss.cell, Ss.put, callK, tk, ix]
theorem app_int {xs : List Int} {v : Int} : (xs.map D.int) ++ [.int v] = (xs ++ [v]).map D.int := by simp
theorem draws_1 (ns : List Int) : ∃ xs : List Int, (∀ x ∈ xs, 0 ≤ x) ∧ d__law_draws [scriptD ns] none = .ok (.lst (xs.map .int)) none := by
  have e : d__law_draws [scriptD ns] none = (match b__law_draws ⟨[some (.lsf (ns.map .int)), none, none, none, none, none], [none, none, none, none, none, none]⟩ with
    | .nx s' => .ok .non none
    | .rt d s' => .ok d none
    | .er x s' => .er x none
    | _ => .bad) := rfl
  rw [e]
  clear e
  have sl := sizeLine_eq
  -- a great cell
  have in1 : ∀ (o2 o4 o5 : Option D) (rest : Int) (xs : List Int) (n : Nat), (∀ x ∈ xs, 0 ≤ x) → xs.length ≤ n → n ≤ 100000 → 0 ≤ rest → ∃ s', forGo [4] (tName 4) l1__law_draws (rangeD 0 60) ⟨[some (.lsf (ns.map .int)), none, o2, some (.int rest), o4, o5], [none, some (.lst (xs.map .int)), none, none, none, none]⟩ = .nx s' ∧
      ∃ (o4 : Option D) (r : _) (xs' : List Int), s' = ⟨[some (.lsf (ns.map .int)), none, o2, r, o4, o5], [none, some (.lst (xs'.map .int)), none, none, none, none]⟩ ∧ (∀ x ∈ xs', 0 ≤ x) ∧ xs'.length ≤ n + 60 := by
    intro o2 o4 o5 rest xs n hx hn hn2 hr
    obtain ⟨s', h1, o4', r, xs', h2, h3, h4, h5⟩ := for_inv (fun i s => ∃ (o4 : Option D) (r : _) (xs' : List Int), s = ⟨[some (.lsf (ns.map .int)), none, o2, some (.int r), o4, o5], [none, some (.lst (xs'.map .int)), none, none, none, none]⟩ ∧ (∀ x ∈ xs', 0 ≤ x) ∧ xs'.length ≤ n + i ∧ 0 ≤ r) (vs := [4]) (tg := tName 4) (b := l1__law_draws) (rangeD 0 60) 0 _ ⟨o4, rest, xs, rfl, hx, by omega, hr⟩ (by
      rintro j d s hd ⟨o4, r, xs', rfl, h1, h2, h3⟩
      obtain ⟨rfl, hj⟩ := range_at hd
      refine ⟨_, rfl, ?_⟩
      unfold l1__law_draws
      by_cases hp : 0 < r
      · refine ⟨⟨[some (.lsf (ns.map .int)), none, o2, some (.int (r.fdiv 1009)), some (.int (0 + (j : Nat))), o5], [none, some (.lst ((xs' ++ [r.fmod 1009]).map .int)), none, none, none, none]⟩, ?_, _, _, _, rfl, ?_, ?_, fdiv_pos (by decide) h3⟩
        · have hs : xs'.length < 16777216 := by omega
          simp [Ss.asg, wipeD, Ss.lst, Ss.wr, hp, dDiv_i, divOk, sl, hs]
        · intro x hx
          rcases List.mem_append.mp hx with q | q
          · exact h1 x q
          · have : x = r.fmod 1009 := by simpa using q
            rw [this]
            exact (fmod_pos (by decide)).1
        · simp; omega
      · refine ⟨⟨[some (.lsf (ns.map .int)), none, o2, some (.int r), some (.int (0 + (j : Nat))), o5], [none, some (.lst (xs'.map .int)), none, none, none, none]⟩, ?_, _, _, _, rfl, h1, by omega, h3⟩
        simp [Ss.asg, wipeD, hp])
    exact ⟨s', h1, o4', some (.int r), xs', h2, h3, by rw [rangeD_len] at h4; omega⟩
  have in2 : ∀ (o2 o4 : Option D) (r5 rest : Int) (xs : List Int) (n : Nat), (∀ x ∈ xs, 0 ≤ x) → xs.length ≤ n → n ≤ 100000 → ∃ s', forGo [4] (tName 4) l2__law_draws (rangeD 0 12) ⟨[some (.lsf (ns.map .int)), none, o2, some (.int rest), o4, some (.int r5)], [none, some (.lst (xs.map .int)), none, none, none, none]⟩ = .nx s' ∧
      ∃ (o4 o5 r : Option D) (xs' : List Int), s' = ⟨[some (.lsf (ns.map .int)), none, o2, r, o4, o5], [none, some (.lst (xs'.map .int)), none, none, none, none]⟩ ∧ (∀ x ∈ xs', 0 ≤ x) ∧ xs'.length ≤ n + 60 := by
    intro o2 o4 r5 rest xs n hx hn hn2
    obtain ⟨s', h1, o4', r, xs', h2, h3, h4⟩ := for_inv (fun i s => ∃ (o4 : Option D) (r : _) (xs' : List Int), s = ⟨[some (.lsf (ns.map .int)), none, o2, some (.int rest), o4, some (.int r)], [none, some (.lst (xs'.map .int)), none, none, none, none]⟩ ∧ (∀ x ∈ xs', 0 ≤ x) ∧ xs'.length ≤ n + i) (vs := [4]) (tg := tName 4) (b := l2__law_draws) (rangeD 0 12) 0 _ ⟨o4, r5, xs, rfl, hx, by omega⟩ (by
      rintro j d s hd ⟨o4, r, xs', rfl, h1, h2⟩
      obtain ⟨rfl, hj⟩ := range_at hd
      refine ⟨_, rfl, ?_⟩
      unfold l2__law_draws
      refine ⟨⟨[some (.lsf (ns.map .int)), none, o2, some (.int rest), some (.int (0 + (j : Nat))), some (.int ((r * 16807 + 69621 * (0 + (j : Nat)) + 5).fmod 2147483629))], [none, some (.lst ((xs' ++ [((r * 16807 + 69621 * (0 + (j : Nat)) + 5).fmod 2147483629).fdiv 1009]).map .int)), none, none, none, none]⟩, ?_, _, _, _, rfl, ?_, ?_⟩
      · have hs : xs'.length < 16777216 := by omega
        simp [Ss.asg, wipeD, Ss.lst, Ss.wr, dDiv_i, divOk, sl, hs, dMul_r, dMul_l]
      · intro x hx
        rcases List.mem_append.mp hx with q | q
        · exact h1 x q
        · have : x = ((r * 16807 + 69621 * (0 + (j : Nat)) + 5).fmod 2147483629).fdiv 1009 := by simpa using q
          rw [this]
          exact fdiv_pos (by decide) (fmod_pos (by decide)).1
      · simp; omega)
    exact ⟨s', h1, o4', some (.int r), some (.int rest), xs', h2, h3, by rw [rangeD_len] at h4; omega⟩
  have cut : ∀ (j : Nat) (d : D), (G.cutD (ns.map D.int) none (some 63))[j]? = some d → j < 63 ∧ ∃ c, d = .int c := by
    intro j d hd
    unfold G.cutD at hd
    rw [List.getElem?_take] at hd
    split at hd
    · rename_i hlt
      rw [List.getElem?_drop, List.getElem?_map] at hd
      obtain ⟨c, _, h⟩ := Option.map_eq_some_iff.mp hd
      refine ⟨?_, c, h.symm⟩
      have : HT.sIx (ns.map D.int).length (ns.map D.int).length (some 63) ≤ 63 := by
        unfold HT.sIx
        simp
        omega
      omega
    · cases hd
  obtain ⟨s', h1, o2, o3, o4, o5, xs, h2, h3, h4⟩ := for_inv (fun i s => ∃ (o2 o3 o4 o5 : Option D) (xs : List Int), s = ⟨[some (.lsf (ns.map .int)), none, o2, o3, o4, o5], [none, some (.lst (xs.map .int)), none, none, none, none]⟩ ∧ (∀ x ∈ xs, 0 ≤ x) ∧ xs.length ≤ 60 * i) (vs := [2]) (tg := tName 2) (b := l3__law_draws) (G.cutD (ns.map D.int) none (some 63)) 0 ⟨[some (.lsf (ns.map .int)), none, none, none, none, none], [none, some (.lst []), none, none, none, none]⟩ ⟨none, none, none, none, [], rfl, by simp, by simp⟩ (by
    rintro j d s hd ⟨o2, o3, o4, o5, xs, rfl, h1, h2⟩
    obtain ⟨hj, c, rfl⟩ := cut j d hd
    refine ⟨_, rfl, ?_⟩
    unfold l3__law_draws
    have ha : 0 ≤ (if c < 0 then -c else c) := by split <;> omega
    have pw : dPow (.int 10) (.int 18) = some (.int 1000000000000000000) := rfl
    by_cases hb : 1000000000000000000 ≤ (if c < 0 then -c else c)
    · obtain ⟨s', e1, o4', r, xs', e2, e3, e4⟩ := in1 (some (.int c)) o4 o5 (if c < 0 then -c else c) xs (60 * (0 + j)) h1 h2 (by omega) ha
      refine ⟨s', .inl ?_, some (.int c), r, o4', o5, xs', e2, e3, by omega⟩
      simp [Ss.asg, wipeD, pw, hb, dRange_i, e1]
    · obtain ⟨s', e1, o4', o5', r, xs', e2, e3, e4⟩ := in2 (some (.int c)) o4 (((if c < 0 then -c else c) * 48271 + 11).fmod 2147483647) (if c < 0 then -c else c) xs (60 * (0 + j)) h1 h2 (by omega)
      refine ⟨s', .inl ?_, some (.int c), r, o4', o5', xs', e2, e3, by omega⟩
      simp [Ss.asg, wipeD, pw, hb, dRange_i, dMul_r, e1])
  refine ⟨xs, h3, ?_⟩
  unfold b__law_draws
  subst h2
  simp [Ss.own, Ss.asg, wipeD, csOk, dSl, h1, Ss.fix]
end LW

set_option Elab.async false
set_option linter.all false
set_option maxRecDepth 100000
namespace LW
open PySem PySem.Spec PyProof.Rows L2 RZ GXS He GH G
def endO : Fl → Out D
  | .nx _ => .ok .non none
  | .rt d _ => .ok d none
  | .er x _ => .er x none
  | _ => .bad
@[simp] theorem endO_rt {d : D} {s : Ss} : endO (.rt d s) = .ok d none := rfl
@[simp] theorem endO_nx {s : Ss} : endO (.nx s) = .ok .non none := rfl
@[simp] theorem endO_er {d : Exn} {s : Ss} : endO (.er d s) = .er d none := rfl
theorem fd {N : Nat} {b : Ss → Fl} {ds : List D} {s : Ss} (h1 : (celB none 0 ds && hasC none none ds.length) = true) (hs : s0 N ds none = s) : fdef N none false b ds none = endO (b s) := by
  unfold fdef
  rw [hs]
  simp only [Bool.false_eq_true, if_false]
  rw [if_pos h1]
  all_goals (cases b s <;> rfl)
/-! ### the greatest common divisor -/
theorem gcd_step {a b : Int} (ha : 0 ≤ a) (hb : 0 < b) : Int.gcd b (a.fmod b) = Int.gcd a b := by
  rw [emod_of hb]
  show Nat.gcd b.natAbs (a % b).natAbs = Nat.gcd a.natAbs b.natAbs
  have e : (a % b).natAbs = a.natAbs % b.natAbs := by
    have h1 : a = (a.natAbs : Int) := by omega
    have h2 : b = (b.natAbs : Int) := by omega
    conv => lhs; rw [h1, h2]
    omega
  rw [e, Nat.gcd_comm a.natAbs b.natAbs, Nat.gcd_rec b.natAbs a.natAbs, Nat.gcd_comm]
def gs (x y : Int) : Ss := ⟨[some (.int x), some (.int y)], [none, none]⟩
theorem gcd_while {f : Ss → Ss ⊕ Fl} (h0 : ∀ x, f (gs x 0) = .inr (.nx (gs x 0))) (h1 : ∀ x y, 0 ≤ x → 0 < y → f (gs x y) = .inl (gs y (x.fmod y))) : ∀ (n : Nat) (x y : Int), 0 ≤ x → 0 ≤ y → y.toNat ≤ n → whW f (gs x y) = .nx (gs (Int.gcd x y) 0)
  | 0, x, y, hx, hy, hn => by
    have : y = 0 := by omega
    subst this
    rw [whW_eq, h0]
    have e : ((Int.gcd x 0 : Nat) : Int) = x := by rw [Int.gcd_zero_right]; omega
    rw [e]
  | n + 1, x, y, hx, hy, hn => by
    by_cases z : y = 0
    · subst z
      rw [whW_eq, h0]
      have e : ((Int.gcd x 0 : Nat) : Int) = x := by rw [Int.gcd_zero_right]; omega
      rw [e]
    · have hp : 0 < y := by omega
      obtain ⟨m1, m2⟩ := fmod_pos (i := x) hp
      rw [whW_eq, h1 x y hx hp]
      show whW f (gs y (x.fmod y)) = _
      rw [gcd_while h0 h1 n y (x.fmod y) (by omega) m1 (by omega), gcd_step hx hp]
theorem abs_i (a : Int) : (if a < 0 then -a else a) = (a.natAbs : Int) := by split <;> omega
theorem common_1 (a b : Int) : d_common [.int a, .int b] none = .ok (.int (Int.gcd a b)) none := by
  refine (fd (b := b_common) (s := ⟨[some (.int a), some (.int b)], [none, none]⟩) rfl rfl).trans ?_
  have lp := gcd_while (f := whS none [] (tTru (eVar 1)) l1_common) (fun x => by unfold gs whS l1_common; simp [dTru]) (fun x y hx hy => by
    have hy0 : y ≠ 0 := by omega
    have hb0 : (y != 0) = true := by simp [hy0]
    unfold gs whS l1_common; simp [dTru, hb0, hy0, D.isCel, Ss.asg, wipeD]) b.natAbs a.natAbs b.natAbs (by omega) (by omega) (by omega)
  have eg : Int.gcd (a.natAbs : Int) (b.natAbs : Int) = Int.gcd a b := rfl
  rw [eg] at lp
  unfold b_common bWhile
  simp only [gs] at lp
  simp [abs_i, lp, Ss.asg, wipeD, D.isCel]
theorem lcommon_1 (a b : Int) : d__law_common [.int a, .int b] none = .ok (.int (Int.gcd a b)) none := by
  refine (fd (b := b__law_common) (s := ⟨[some (.int a), some (.int b)], [none, none]⟩) rfl rfl).trans ?_
  have lp := gcd_while (f := whS none [] (tBl (eBin dGt (eVar 1) (eC (.int 0)))) l1__law_common) (fun x => by unfold gs whS l1__law_common; simp [dTru]) (fun x y hx hy => by
    have hy0 : y ≠ 0 := by omega
    have hb0 : (y != 0) = true := by simp [hy0]
    unfold gs whS l1__law_common; simp [dTru, hy0, hy, D.isCel, Ss.asg, wipeD]) b.natAbs a.natAbs b.natAbs (by omega) (by omega) (by omega)
  have eg : Int.gcd (a.natAbs : Int) (b.natAbs : Int) = Int.gcd a b := rfl
  rw [eg] at lp
  unfold b__law_common bWhile
  simp only [gs] at lp
  simp [abs_i, lp, Ss.asg, wipeD, D.isCel]
/-! ### fractions in least terms -/
@[simp] theorem dTup_2 {a b : D} : dTup [a, b] = some (.tup [a, b]) := if_pos (by rw [sizeLine_eq]; simp)
@[simp] theorem isCel_int {i : Int} : (D.int i).isCel = false := rfl
@[simp] theorem isCel_str {i : Str} : (D.str i).isCel = false := rfl
@[simp] theorem isCel_bl {i : Bool} : (D.bl i).isCel = false := rfl
@[simp] theorem isCel_non : (D.non).isCel = false := rfl
@[simp] theorem isCel_tup {i : List D} : (D.tup i).isCel = false := rfl
@[simp] theorem isCel_lst {i : List D} : (D.lst i).isCel = false := rfl
def mkN (n d : Int) : Int := if d < 0 then (-n).fdiv (Int.gcd n d) else n.fdiv (Int.gcd n d)
def mkD (n d : Int) : Int := if d < 0 then (-d).fdiv (Int.gcd n d) else d.fdiv (Int.gcd n d)
def mk (n d : Int) : D := .tup [.int (mkN n d), .int (mkD n d)]
theorem gcd_ok {n d : Int} (hd : d ≠ 0) (hb : d.natAbs < 18446744073709551616) : divOk ((Int.gcd n d : Nat) : Int) = true ∧ 0 < Int.gcd n d ∧ Int.gcd n d ≤ d.natAbs := by
  have h1 : 0 < Int.gcd n d := Int.gcd_pos_of_ne_zero_right _ hd
  have h2 : Int.gcd n d ≤ d.natAbs := Nat.gcd_le_right _ (by omega)
  refine ⟨?_, h1, h2⟩
  unfold divOk
  rw [Bool.or_eq_true]
  refine .inr (decide_eq_true ⟨by omega, ?_⟩)
  rw [Int.natAbs_natCast]
  have h3 : Int.gcd n d < 2 ^ 9000 := Nat.lt_of_lt_of_le (Nat.lt_of_le_of_lt h2 hb) (show 18446744073709551616 ≤ 2 ^ 9000 from Nat.le_trans (show 18446744073709551616 ≤ 2 ^ 64 by decide) (Nat.pow_le_pow_right (by decide) (by decide)))
  exact (Nat.log2_lt (by omega)).mpr h3
theorem made_1 (n d : Int) (hd : d ≠ 0) (hb : d.natAbs < 18446744073709551616) : d_made [.int n, .int d] none = .ok (mk n d) none := by
  refine (fd (b := b_made) (s := ⟨[some (.int n), some (.int d), none], [none, none, none]⟩) rfl rfl).trans ?_
  obtain ⟨g1, g2, g3⟩ := gcd_ok (n := n) hd hb
  unfold b_made mk mkN mkD
  by_cases h : d < 0
  · have eg : Int.gcd (-n) (-d) = Int.gcd n d := by rw [Int.gcd_neg, Int.neg_gcd]
    simp [h, callK, common_1, eg, Ss.asg, wipeD, D.isCel, dDiv_i g1]
  · simp [h, callK, common_1, Ss.asg, wipeD, D.isCel, dDiv_i g1]
theorem neg_ok {g : Nat} (h1 : 0 < g) (h2 : g < 1073741824) : divOk (-(g : Int)) = true := by
  unfold divOk
  rw [Bool.or_eq_true]
  refine .inl ?_
  rw [decide_eq_true_eq, Int.natAbs_neg, Int.natAbs_natCast]
  exact ⟨by omega, h2⟩
theorem mul_one_i (i : Int) : dMul (.int i) (.int 1) = some (.int (i * 1)) := dMul_r ⟨by decide, by decide⟩
theorem mul_neg_i (i : Int) : dMul (.int i) (.int (-1)) = some (.int (i * (-1))) := dMul_r ⟨by decide, by decide⟩
theorem lmade_0 (n d gi a b : Int) (gk : Int) (hc : d__law_common [.int n, .int d] none = .ok (.int gi) none) (hg : (if 0 < d then gi * 1 else gi * -1) = gk) (hk : divOk gk = true) (ha : n.fdiv gk = a) (hb : d.fdiv gk = b) : d__law_made [.int n, .int d] none = .ok (.tup [.int a, .int b]) none := by
  refine (fd (b := b__law_made) (s := ⟨[some (.int n), some (.int d), none], [none, none, none]⟩) rfl rfl).trans ?_
  unfold b__law_made
  by_cases h : 0 < d
  · rw [if_pos h] at hg
    simp [h, callK, hc, Ss.asg, wipeD, D.isCel, mul_one_i, hg, dDiv_i hk, ha, hb]
  · rw [if_neg h] at hg
    simp [h, callK, hc, Ss.asg, wipeD, D.isCel, mul_neg_i, hg, dDiv_i hk, ha, hb]
theorem lmade_1 (n d : Int) (hd : d ≠ 0) (hb : d.natAbs < 18446744073709551616) (hn : d < 0 → d.natAbs < 1073741824) : d__law_made [.int n, .int d] none = .ok (mk n d) none := by
  obtain ⟨g1, g2, g3⟩ := gcd_ok (n := n) hd hb
  have hc := lcommon_1 n d
  unfold mk mkN mkD
  by_cases h : d < 0
  · have h0 : ¬ 0 < d := Int.not_lt.mpr (Int.le_of_lt h)
    have g4 := neg_ok g2 (Nat.lt_of_le_of_lt g3 (hn h))
    have f1 : n.fdiv (-((Int.gcd n d : Nat) : Int)) = (-n).fdiv ((Int.gcd n d : Nat) : Int) := by rw [← Int.neg_fdiv_neg, Int.neg_neg]
    have f2 : d.fdiv (-((Int.gcd n d : Nat) : Int)) = (-d).fdiv ((Int.gcd n d : Nat) : Int) := by rw [← Int.neg_fdiv_neg, Int.neg_neg]
    rw [if_pos h, if_pos h]
    exact lmade_0 n d _ _ _ (-((Int.gcd n d : Nat) : Int)) hc (by rw [if_neg h0, Int.mul_neg, Int.mul_one]) g4 f1 f2
  · have h0 : 0 < d := by
      rcases Int.lt_trichotomy d 0 with z | z | z
      · exact absurd z h
      · exact absurd z hd
      · exact z
    rw [if_neg h, if_neg h]
    exact lmade_0 n d _ _ _ ((Int.gcd n d : Nat) : Int) hc (by rw [if_pos h0, Int.mul_one]) g1 rfl rfl
/-! ### what is a weight -/
def wt : Option (Int × Int) → D
  | none => .non
  | some q => .tup [.int q.1, .int q.2]
/-- a small fraction -/
structure Sm (n d : Int) : Prop where
  n1 : -1000000 ≤ n
  n2 : n ≤ 1000000
  d1 : 0 < d
  d2 : d ≤ 1000000
  g : Int.gcd n d = 1
def SmW (o : Option (Int × Int)) : Prop := ∀ q, o = some q → Sm q.1 q.2
theorem isint_1 (i : Int) : d_is_integer [.int i] none = .ok (.bl true) none := rfl
theorem inr_1 (i lo hi : Int) : d_in_range [.int i, .int lo, .int hi] none = .ok (.bl (decide (lo ≤ i) && decide (i ≤ hi))) none := by
  refine (fd (b := b_in_range) (s := ⟨[some (.int i), some (.int lo), some (.int hi)], [none, none, none]⟩) rfl rfl).trans ?_
  unfold b_in_range
  by_cases h : lo ≤ i <;> simp [eAnd, eChain, callK, isint_1, h, dTru]
@[simp] theorem ix_0 {a b : D} : dIx (.tup [a, b]) (.int 0) = some a := dIx_tup (by decide) rfl
@[simp] theorem ix_1 {a b : D} : dIx (.tup [a, b]) (.int 1) = some b := dIx_tup (by decide) rfl
theorem isT_2 {a b : D} : dIsi "tuple" [.tup [a, b]] = some (.bl true) := rfl
theorem isfr_1 (n d : Int) : d_is_fraction [.tup [.int n, .int d]] none = .ok (.bl (decide (0 < d) && decide (Int.gcd n d = 1))) none := by
  refine (fd (b := b_is_fraction) (s := ⟨[some (.tup [.int n, .int d]), none], [none, none]⟩) rfl rfl).trans ?_
  unfold b_is_fraction
  have cp : eComp [1] (tName 1) (iOf (eVar 0)) mTrue (eCall 1 d_is_integer (aCons (eVar 1) aNil)) [some (.tup [.int n, .int d]), none] none = .ok [.bl true, .bl true] none := by
    refine (comp_ok (xs := [.int n, .int d]) (fun _ => .bl true) (by simp) (by rw [sizeLine_eq]; simp) fun e he => ?_)
    rcases List.mem_cons.mp he with rfl | he
    · exact ⟨_, rfl, rfl⟩
    · rw [List.mem_singleton.mp he]; exact ⟨_, rfl, rfl⟩
  by_cases h : 0 < d
  · by_cases h1 : Int.gcd n d = 1
    · have h2 : ((Int.gcd n d : Nat) : Int) = 1 := by omega
      simp [eAnd, isT_2, cp, dAll, D.bls, callK, common_1, h, h1, h2, dTru, dEq_i, dNe_i, dLen]
    · have h2 : ¬ ((Int.gcd n d : Nat) : Int) = 1 := by omega
      simp [eAnd, isT_2, cp, dAll, D.bls, callK, common_1, h, h1, h2, dTru, dEq_i, dNe_i, dLen]
  · simp [eAnd, isT_2, cp, dAll, D.bls, callK, common_1, h, dTru, dEq_i, dNe_i, dLen]
theorem small_1 {n d : Int} (h : Sm n d) : d_is_small [.tup [.int n, .int d]] none = .ok (.bl true) none := by
  refine (fd (b := b_is_small) (s := ⟨[some (.tup [.int n, .int d])], [none]⟩) rfl rfl).trans ?_
  unfold b_is_small
  have h1 := h.n1
  have h2 := h.n2
  have h3 := h.d1
  have h4 := h.d2
  have h5 : 1 ≤ d := h3
  simp [isT_2, callK, inr_1, isfr_1, h1, h2, h3, h4, h5, h.g, dNe_i, dLen]
theorem smw_1 {o : Option (Int × Int)} (h : SmW o) : d_is_small_weight [wt o] none = .ok (.bl true) none := by
  cases o with
  | none => rfl
  | some q =>
    refine (fd (b := b_is_small_weight) (s := ⟨[some (.tup [.int q.1, .int q.2])], [none]⟩) rfl rfl).trans ?_
    unfold b_is_small_weight
    simp [eOr, callK, small_1 (h q rfl), dIsN, D.isN, dTru]
theorem dem_1 {o : Option (Int × Int)} (h : SmW o) (x : Str) : d_demand_weight [wt o, .str x] none = .ok .non none := by
  have e : d_demand_weight [wt o, .str x] none = endO (b_demand_weight ⟨[some (wt o), some (.str x)], [none, none]⟩) := by cases o <;> rfl
  rw [e]
  unfold b_demand_weight
  have hc : noCel [wt o] = true := by cases o <;> rfl
  simp [callK, smw_1 h, hc]
theorem dem2_1 {o p : Option (Int × Int)} (h : SmW o) (k : SmW p) : d_demand_two [wt o, wt p] none = .ok .non none := by
  have e : d_demand_two [wt o, wt p] none = endO (b_demand_two ⟨[some (wt o), some (wt p)], [none, none]⟩) := by cases o <;> cases p <;> rfl
  rw [e]
  unfold b_demand_two
  have hc : ∀ x, noCel [wt o, .str x] = true := fun x => by cases o <;> rfl
  have hc' : ∀ x, noCel [wt p, .str x] = true := fun x => by cases p <;> rfl
  simp [callK, dem_1 h, dem_1 k, hc, hc']
end LW

set_option Elab.async false
set_option linter.all false
set_option maxRecDepth 100000
namespace LW
open PySem PySem.Spec PyProof.Rows L2 RZ GXS He GH G
/-- a small positive number below the line -/
def Dn (d : Int) : Prop := 0 < d ∧ d ≤ 1000000
theorem Sm.dn {n d : Int} (h : Sm n d) : Dn d := ⟨h.d1, h.d2⟩
theorem mul_d {i j : Int} (h : Dn j) : dMul (.int i) (.int j) = some (.int (i * j)) := dMul_r ⟨by have := h.1; omega, by have := h.2; omega⟩
theorem dn_mul {a b : Int} (h : Dn a) (k : Dn b) : a * b ≠ 0 ∧ (a * b).natAbs < 18446744073709551616 ∧ 0 < a * b := by
  have p := Int.mul_pos h.1 k.1
  have q : a * b ≤ 1000000 * 1000000 := Int.le_trans (Int.mul_le_mul_of_nonneg_right h.2 (Int.le_of_lt k.1)) (Int.mul_le_mul_of_nonneg_left k.2 (by decide))
  refine ⟨by omega, by omega, p⟩
/-- the product of two weights -/
def pl (a b : Int × Int) : D := mk (a.1 * b.2 + b.1 * a.2) (a.2 * b.2)
def plW : Option (Int × Int) → Option (Int × Int) → D
  | some a, some b => pl a b
  | _, _ => .non
def neg1 (a : Int × Int) : Int × Int := (0 - a.1, a.2)
def DnW (o : Option (Int × Int)) : Prop := ∀ q, o = some q → Dn q.2
theorem SmW.dn {o : Option (Int × Int)} (h : SmW o) : DnW o := fun q e => (h q e).dn
theorem noCel_w {o : Option (Int × Int)} {r : List D} : noCel (wt o :: r) = noCel r := by cases o <;> rfl
theorem added_1 {a b : Int × Int} (h : Dn a.2) (k : Dn b.2) : d_added [wt (some a), wt (some b)] none = .ok (pl a b) none := by
  obtain ⟨n, d⟩ := a
  obtain ⟨n', d'⟩ := b
  refine (fd (b := b_added) (s := ⟨[some (.tup [.int n, .int d]), some (.tup [.int n', .int d'])], [none, none]⟩) rfl rfl).trans ?_
  unfold b_added pl
  obtain ⟨h1, h2, _⟩ := dn_mul h k
  have m1 : dMul (.int n) (.int d') = some (.int (n * d')) := mul_d k
  have m2 : dMul (.int n') (.int d) = some (.int (n' * d)) := mul_d h
  have m3 : dMul (.int d) (.int d') = some (.int (d * d')) := mul_d k
  simp [m1, m2, m3, callK, made_1 _ _ h1 h2]
theorem lplus_1 {o p : Option (Int × Int)} (h : DnW o) (k : DnW p) : d__law_plus [wt o, wt p] none = .ok (plW o p) none := by
  cases o with
  | none => cases p <;> rfl
  | some a =>
    cases p with
    | none => rfl
    | some b =>
      obtain ⟨n, d⟩ := a
      obtain ⟨n', d'⟩ := b
      refine (fd (b := b__law_plus) (s := ⟨[some (.tup [.int n, .int d]), some (.tup [.int n', .int d'])], [none, none]⟩) rfl rfl).trans ?_
      unfold b__law_plus plW pl
      have h' := h _ rfl
      have k' := k _ rfl
      obtain ⟨h1, h2, h3⟩ := dn_mul h' k'
      have m1 : dMul (.int n) (.int d') = some (.int (n * d')) := mul_d k'
      have m2 : dMul (.int n') (.int d) = some (.int (n' * d)) := mul_d h'
      have m3 : dMul (.int d) (.int d') = some (.int (d * d')) := mul_d k'
      have lm := lmade_1 (n * d' + n' * d) (d * d') h1 h2 (fun z => absurd z (Int.not_lt.mpr (Int.le_of_lt h3)))
      simp [m1, m2, m3, callK, lm, dIsN, D.isN]
theorem back_1 (a : Int × Int) : d__law_back [wt (some a)] none = .ok (wt (some (neg1 a))) none := by
  obtain ⟨n, d⟩ := a
  refine (fd (b := b__law_back) (s := ⟨[some (.tup [.int n, .int d])], [none]⟩) rfl rfl).trans ?_
  unfold b__law_back neg1 wt
  simp
theorem negated_1 (a : Int × Int) : d_negated [wt (some a)] none = .ok (wt (some (neg1 a))) none := by
  obtain ⟨n, d⟩ := a
  refine (fd (b := b_negated) (s := ⟨[some (.tup [.int n, .int d])], [none]⟩) rfl rfl).trans ?_
  unfold b_negated neg1 wt
  simp
def lessW (o : Option (Int × Int)) (b : Int × Int) : D := plW o (some (neg1 b))
theorem lless_1 {o : Option (Int × Int)} {b : Int × Int} (h : DnW o) (k : Dn b.2) : d__law_less [wt o, wt (some b)] none = .ok (lessW o b) none := by
  refine (fd (b := b__law_less) (s := ⟨[some (wt o), some (wt (some b))], [none, none]⟩) (by cases o <;> rfl) (by cases o <;> rfl)).trans ?_
  unfold b__law_less lessW
  have e := lplus_1 (o := o) (p := some (neg1 b)) h (fun q e => by cases e; exact k)
  simp [callK, noCel_w, back_1, e]
theorem joined_1 {o p : Option (Int × Int)} (h : DnW o) (k : DnW p) : d_joined [wt o, wt p] none = .ok (plW o p) none := by
  cases o with
  | none => cases p <;> rfl
  | some a =>
    cases p with
    | none => rfl
    | some b =>
      refine (fd (b := b_joined) (s := ⟨[some (wt (some a)), some (wt (some b))], [none, none]⟩) rfl rfl).trans ?_
      unfold b_joined plW
      have e := added_1 (h a rfl) (k b rfl)
      simp [callK, noCel_w, e, dIsN, D.isN, wt] at e ⊢
theorem less_1 {o : Option (Int × Int)} {b : Int × Int} (h : DnW o) (k : Dn b.2) : d_less [wt o, wt (some b)] none = .ok (lessW o b) none := by
  cases o with
  | none => rfl
  | some a =>
    refine (fd (b := b_less) (s := ⟨[some (wt (some a)), some (wt (some b))], [none, none]⟩) rfl rfl).trans ?_
    unfold b_less lessW plW
    have e := added_1 (b := neg1 b) (h a rfl) k
    have en := negated_1 b
    simp [callK, noCel_w, dIsN, D.isN, wt] at e en ⊢
    simp [e, en, callK]
theorem scaled_1 (a : Int × Int) {x y : Int} (h : Dn a.2) (hx : -1000000 ≤ x ∧ x ≤ 1000000) (hy : Dn y) : d_scaled [wt (some a), .int x, .int y] none = .ok (mk (a.1 * x) (a.2 * y)) none := by
  obtain ⟨n, d⟩ := a
  refine (fd (b := b_scaled) (s := ⟨[some (.tup [.int n, .int d]), some (.int x), some (.int y)], [none, none, none]⟩) rfl rfl).trans ?_
  unfold b_scaled
  obtain ⟨h1, h2, _⟩ := dn_mul h hy
  have m1 : dMul (.int n) (.int x) = some (.int (n * x)) := dMul_r ⟨by omega, by omega⟩
  have m3 : dMul (.int d) (.int y) = some (.int (d * y)) := mul_d hy
  simp [m1, m3, callK, made_1 _ _ h1 h2]
theorem lscaled_1 (a : Int × Int) {x y : Int} (h : Dn a.2) (hx : -1000000 ≤ x ∧ x ≤ 1000000) (hy : Dn y) : d__law_scaled [wt (some a), .int x, .int y] none = .ok (mk (a.1 * x) (a.2 * y)) none := by
  obtain ⟨n, d⟩ := a
  refine (fd (b := b__law_scaled) (s := ⟨[some (.tup [.int n, .int d]), some (.int x), some (.int y)], [none, none, none]⟩) rfl rfl).trans ?_
  unfold b__law_scaled
  obtain ⟨h1, h2, h3⟩ := dn_mul h hy
  have m1 : dMul (.int n) (.int x) = some (.int (n * x)) := dMul_r ⟨by omega, by omega⟩
  have m3 : dMul (.int d) (.int y) = some (.int (d * y)) := mul_d hy
  have lm := lmade_1 (n * x) (d * y) h1 h2 (fun z => absurd z (Int.not_lt.mpr (Int.le_of_lt h3)))
  simp [m1, m3, callK, lm]
/-- the order of two weights -/
def ordW : Option (Int × Int) → Option (Int × Int) → Int
  | some a, some b => (if 0 < a.1 * b.2 - b.1 * a.2 then 1 else 0) - (if a.1 * b.2 - b.1 * a.2 < 0 then 1 else 0)
  | some _, none => 1
  | none, some _ => -1
  | none, none => 0
theorem order_1 {o p : Option (Int × Int)} (h : DnW o) (k : DnW p) : d_order [wt o, wt p] none = .ok (.int (ordW o p)) none := by
  cases o with
  | none => cases p <;> rfl
  | some a =>
    cases p with
    | none => rfl
    | some b =>
      obtain ⟨n, d⟩ := a
      obtain ⟨n', d'⟩ := b
      refine (fd (b := b_order) (s := ⟨[some (.tup [.int n, .int d]), some (.tup [.int n', .int d']), none], [none, none, none]⟩) rfl rfl).trans ?_
      unfold b_order ordW
      have m1 : dMul (.int n) (.int d') = some (.int (n * d')) := mul_d (k _ rfl)
      have m2 : dMul (.int n') (.int d) = some (.int (n' * d)) := mul_d (h _ rfl)
      simp only []
      generalize n * d' = u at m1 ⊢
      generalize n' * d = v at m2 ⊢
      by_cases z1 : v < u <;> by_cases z2 : u - v < 0 <;> simp [m1, m2, dIsN, D.isN, Ss.asg, wipeD, z1, z2, dSub, b2i]
theorem lorder_1 {o p : Option (Int × Int)} (h : DnW o) (k : DnW p) : d__law_order [wt o, wt p] none = .ok (.int (ordW o p)) none := by
  cases o with
  | none => cases p <;> rfl
  | some a =>
    cases p with
    | none => rfl
    | some b =>
      obtain ⟨n, d⟩ := a
      obtain ⟨n', d'⟩ := b
      refine (fd (b := b__law_order) (s := ⟨[some (.tup [.int n, .int d]), some (.tup [.int n', .int d']), none], [none, none, none]⟩) rfl rfl).trans ?_
      unfold b__law_order ordW
      have m1 : dMul (.int n) (.int d') = some (.int (n * d')) := mul_d (k _ rfl)
      have m2 : dMul (.int n') (.int d) = some (.int (n' * d)) := mul_d (h _ rfl)
      simp only []
      generalize n * d' = u at m1 ⊢
      generalize n' * d = v at m2 ⊢
      by_cases z1 : 0 < u - v <;> by_cases z2 : u - v < 0 <;> simp [m1, m2, dIsN, D.isN, Ss.asg, wipeD, z1, z2, dIntOf]
theorem greater_1 {o p : Option (Int × Int)} (h : DnW o) (k : DnW p) : d_greater [wt o, wt p] none = .ok (if 0 ≤ ordW o p then wt o else wt p) none := by
  refine (fd (b := b_greater) (s := ⟨[some (wt o), some (wt p)], [none, none]⟩) (by cases o <;> cases p <;> rfl) (by cases o <;> cases p <;> rfl)).trans ?_
  unfold b_greater
  have e := order_1 h k
  by_cases z : 0 ≤ ordW o p <;> simp [callK, noCel_w, e, z]
end LW

set_option Elab.async false
set_option linter.all false
set_option maxRecDepth 100000
namespace LW
open PySem PySem.Spec PyProof.Rows L2 RZ GXS He GH G
/-! ### what the program answers for weights -/
@[simp] theorem isN_w {o : Option (Int × Int)} : (wt o).isN = o.isNone := by cases o <;> rfl
def raiseA (x : Str) : Exn := ⟨"ArgumentError", [("reason", .str x)]⟩
theorem plus_1 {o p : Option (Int × Int)} (h : SmW o) (k : SmW p) : d_plus [wt o, wt p] none = .ok (if 0 ≤ ordW o p then wt o else wt p) none := by
  refine (fd (b := b_plus) (s := ⟨[some (wt o), some (wt p)], [none, none]⟩) (by cases o <;> cases p <;> rfl) (by cases o <;> cases p <;> rfl)).trans ?_
  unfold b_plus
  simp [callK, noCel_w, dem2_1 h k, greater_1 h.dn k.dn]
theorem times_1 {o p : Option (Int × Int)} (h : SmW o) (k : SmW p) : d_times [wt o, wt p] none = .ok (plW o p) none := by
  refine (fd (b := b_times) (s := ⟨[some (wt o), some (wt p)], [none, none]⟩) (by cases o <;> cases p <;> rfl) (by cases o <;> cases p <;> rfl)).trans ?_
  unfold b_times
  simp [callK, noCel_w, dem2_1 h k, joined_1 h.dn k.dn]
theorem compare_1 {o p : Option (Int × Int)} (h : SmW o) (k : SmW p) : d_compare [wt o, wt p] none = .ok (.int (ordW o p)) none := by
  refine (fd (b := b_compare) (s := ⟨[some (wt o), some (wt p)], [none, none]⟩) (by cases o <;> cases p <;> rfl) (by cases o <;> cases p <;> rfl)).trans ?_
  unfold b_compare
  simp [callK, noCel_w, dem2_1 h k, order_1 h.dn k.dn]
theorem over_1 {o : Option (Int × Int)} {b : Int × Int} (h : SmW o) (k : Sm b.1 b.2) : d_over [wt o, wt (some b)] none = .ok (lessW o b) none := by
  refine (fd (b := b_over) (s := ⟨[some (wt o), some (wt (some b))], [none, none]⟩) (by cases o <;> rfl) (by cases o <;> rfl)).trans ?_
  unfold b_over
  have e := dem2_1 (p := some b) h (fun q e => by cases e; exact k)
  have l := less_1 (b := b) h.dn k.dn
  simp [callK, noCel_w, e, l, dIsN]
theorem over_0 {o : Option (Int × Int)} (h : SmW o) : d_over [wt o, wt none] none = .er (raiseA "other") none := by
  refine (fd (b := b_over) (s := ⟨[some (wt o), some (wt none)], [none, none]⟩) (by cases o <;> rfl) (by cases o <;> rfl)).trans ?_
  unfold b_over
  have e := dem2_1 (p := none) h (fun q e => nomatch e)
  simp [callK, noCel_w, e, dIsN]
  rfl
theorem weight_1 {n d : Int} (h : -1000000 ≤ n ∧ n ≤ 1000000) (k : -1000000 ≤ d ∧ d ≤ 1000000) (hd : d ≠ 0) : d_weight [.int n, .int d] none = .ok (mk n d) none := by
  refine (fd (b := b_weight) (s := ⟨[some (.int n), some (.int d)], [none, none]⟩) rfl rfl).trans ?_
  unfold b_weight
  simp [callK, inr_1, h.1, h.2, k.1, k.2, hd, dEq_i, made_1 n d hd (by omega)]
theorem weight_0 {n : Int} (h : -1000000 ≤ n ∧ n ≤ 1000000) : d_weight [.int n, .int 0] none = .er (raiseA "other") none := by
  refine (fd (b := b_weight) (s := ⟨[some (.int n), some (.int 0)], [none, none]⟩) rfl rfl).trans ?_
  unfold b_weight
  simp [callK, inr_1, h.1, h.2, dEq_i]
  rfl
theorem root_1 {o : Option (Int × Int)} {c : Int} (h : SmW o) (hc : Dn c) : d_root [wt o, .int c] none = .ok (match o with | none => .non | some a => mk (a.1 * 1) (a.2 * c)) none := by
  refine (fd (b := b_root) (s := ⟨[some (wt o), some (.int c)], [none, none]⟩) (by cases o <;> rfl) (by cases o <;> rfl)).trans ?_
  unfold b_root
  have c1 : 1 ≤ c := hc.1
  cases o with
  | none => 
    have e := dem_1 h "one"
    simp [callK, noCel_w, e, inr_1, c1, hc.2, dIsN]
  | some a =>
    have e := dem_1 h "one"
    have sc := scaled_1 a (x := 1) (h.dn a rfl) (by decide) hc
    simp [callK, noCel_w, e, inr_1, c1, hc.2, dIsN, sc]
theorem raised_1 {o : Option (Int × Int)} {c : Int} (h : SmW o) (hc : -1000000 ≤ c ∧ c ≤ 1000000) : d_raised [wt o, .int c] none = (match o with
    | none => if c < 0 then .er (raiseA "count") none else .ok (if c = 0 then .tup [.int 0, .int 1] else .non) none
    | some a => .ok (mk (a.1 * c) (a.2 * 1)) none) := by
  refine (fd (b := b_raised) (s := ⟨[some (wt o), some (.int c)], [none, none]⟩) (by cases o <;> rfl) (by cases o <;> rfl)).trans ?_
  unfold b_raised
  cases o with
  | none => 
    have e := dem_1 h "one"
    simp [callK, noCel_w, e, inr_1, hc.1, hc.2, dIsN]
    by_cases z : c < 0
    · simp [z]; rfl
    · by_cases z2 : c = 0
      · subst z2; simp [dEq_i]
      · simp [z, z2, dEq_i]
  | some a =>
    have e := dem_1 h "one"
    have sc := scaled_1 a (x := c) (y := 1) (h.dn a rfl) hc ⟨by decide, by decide⟩
    simp [callK, noCel_w, e, inr_1, hc.1, hc.2, dIsN, sc]
end LW

set_option Elab.async false
set_option linter.all false
set_option maxRecDepth 100000
namespace LW
open PySem PySem.Spec PyProof.Rows L2 RZ GXS He GH G
def rowsD : List D := [.fn "weight", .fn "plus", .fn "times", .fn "over", .fn "compare", .fn "raised", .fn "root", .fn "shift_between"]
theorem told_s {c : Int} {x y : D} (hx : x.isCel = false) (hy : y.isCel = false) : s0 5 [.int c, x, y] none = ⟨[some (.int c), some x, some y, none, none], [none, none, none, none, none]⟩ := by
  cases x <;> first | exact absurd hx (by decide) | (cases y <;> first | exact absurd hy (by decide) | rfl)
theorem told_c {c : Int} {x y : D} (hx : x.isCel = false) (hy : y.isCel = false) : (celB none 0 [.int c, x, y] && hasC none none [D.int c, x, y].length) = true := by
  cases x <;> first | exact absurd hx (by decide) | (cases y <;> first | exact absurd hy (by decide) | rfl)
theorem noCel_2 {x y : D} (hx : x.isCel = false) (hy : y.isCel = false) : noCel [x, y] = true := by
  cases x <;> first | exact absurd hx (by decide) | (cases y <;> first | exact absurd hy (by decide) | rfl)
theorem isCel_w {o : Option (Int × Int)} : (wt o).isCel = false := by cases o <;> rfl
theorem told_1 {c : Int} {x y f : D} {g : List D → Kp → Out D} {d : D} (hx : x.isCel = false) (hy : y.isCel = false) (hc : dIx (.lst rowsD) (.int c) = some f) (hf : f.fnOf vt1__law_told = some g) (e : g [x, y] none = .ok d none) : d__law_told [.int c, x, y] none = .ok d none := by
  refine (fd (b := b__law_told) (told_c hx hy) (told_s hx hy)).trans ?_
  unfold b__law_told bTry
  unfold rowsD at hc
  have nc := noCel_2 hx hy
  have sz : (8 : Nat) ≤ sizeLine := by rw [sizeLine_eq]; decide
  simp [dLst, sz, Ss.asg, wipeD, eCallV, hc, hf, callK, nc, e]
theorem told_2 {c : Int} {x y f : D} {g : List D → Kp → Out D} {r : Str} (hx : x.isCel = false) (hy : y.isCel = false) (hc : dIx (.lst rowsD) (.int c) = some f) (hf : f.fnOf vt1__law_told = some g) (e : g [x, y] none = .er (raiseA r) none) : d__law_told [.int c, x, y] none = .ok (.tup [.str "argument", .str r]) none := by
  refine (fd (b := b__law_told) (told_c hx hy) (told_s hx hy)).trans ?_
  unfold b__law_told bTry
  unfold rowsD at hc
  have nc := noCel_2 hx hy
  have sz : (8 : Nat) ≤ sizeLine := by rw [sizeLine_eq]; decide
  simp [dLst, sz, Ss.asg, wipeD, eCallV, hc, hf, callK, nc, e]
  rfl
end LW

set_option Elab.async false
set_option linter.all false
set_option maxRecDepth 100000
namespace LW
open PySem PySem.Spec PyProof.Rows L2 RZ GXS He GH G
/-! ### the greater one -/
theorem ord_neg (o p : Option (Int × Int)) : ordW p o = - ordW o p := by
  cases o with
  | none => cases p <;> rfl
  | some a =>
    cases p with
    | none => rfl
    | some b =>
      unfold ordW
      have e : b.1 * a.2 - a.1 * b.2 = -(a.1 * b.2 - b.1 * a.2) := by omega
      simp only [e]
      generalize a.1 * b.2 - b.1 * a.2 = u
      by_cases h1 : 0 < u <;> by_cases h2 : u < 0 <;> simp [h1, h2] <;> omega
theorem ord_none (o : Option (Int × Int)) : (if 0 < ordW o none then wt o else wt none) = wt o := by cases o <;> rfl
theorem most_1 {o p : Option (Int × Int)} (h : DnW o) (k : DnW p) : d__law_most [.lst [wt o, wt p]] none = .ok (if 0 ≤ ordW o p then wt o else wt p) none := by
  refine (fd (b := b__law_most) (s := ⟨[some (.lst [wt o, wt p]), none, none], [none, none, none]⟩) rfl rfl).trans ?_
  unfold b__law_most
  have hn : DnW none := fun q e => nomatch e
  have e1 := lorder_1 h hn
  have e2 := lorder_1 k h
  have t1 : ∀ x : Option D, l1__law_most ⟨[some (.lst [wt o, wt p]), some (wt none), some (wt o)], [none, none, none]⟩ = .nx ⟨[some (.lst [wt o, wt p]), some (wt o), some (wt o)], [none, none, none]⟩ := by
    intro x
    have q := ord_none o
    unfold l1__law_most
    by_cases z : 0 < ordW o none
    · simp [callK, noCel_w, e1, z, Ss.asg, wipeD]
    · rw [if_neg z] at q
      simp [callK, noCel_w, e1, z, Ss.asg, wipeD]
      exact q
  have t2 : l1__law_most ⟨[some (.lst [wt o, wt p]), some (wt o), some (wt p)], [none, none, none]⟩ = .nx ⟨[some (.lst [wt o, wt p]), some (if 0 ≤ ordW o p then wt o else wt p), some (wt p)], [none, none, none]⟩ := by
    have q := ord_neg o p
    unfold l1__law_most
    by_cases z : 0 ≤ ordW o p
    · have z' : ¬ 0 < ordW p o := by omega
      simp [callK, noCel_w, e2, z, z', Ss.asg, wipeD]
    · have z' : 0 < ordW p o := by omega
      simp [callK, noCel_w, e2, z, z', Ss.asg, wipeD]
  have t1' := t1 none
  have wn : wt none = D.non := rfl
  rw [wn] at t1'
  simp [forGo, Ss.asg, wipeD, t1', t2]
/-! ### fractions in least terms are small -/
theorem mk_sm {n d : Int} (hd : 0 < d) {a b : Nat} (hn : n.natAbs ≤ a) (hb : d.natAbs ≤ b) : ∃ q : Int × Int, mk n d = wt (some q) ∧ q.1.natAbs ≤ a ∧ 0 < q.2 ∧ q.2.natAbs ≤ b ∧ Int.gcd q.1 q.2 = 1 := by
  have h1 : 0 < Int.gcd n d := Int.gcd_pos_of_ne_zero_right _ (by omega)
  have hgi : (0 : Int) < ((Int.gcd n d : Nat) : Int) := by omega
  have nd : ¬ d < 0 := by omega
  have e1 : n.fdiv ((Int.gcd n d : Nat) : Int) = n / ((Int.gcd n d : Nat) : Int) := ediv_of hgi
  have e2 : d.fdiv ((Int.gcd n d : Nat) : Int) = d / ((Int.gcd n d : Nat) : Int) := ediv_of hgi
  have k1 : ((Int.gcd n d : Nat) : Int) ∣ n := Int.gcd_dvd_left ..
  have k2 : ((Int.gcd n d : Nat) : Int) ∣ d := Int.gcd_dvd_right ..
  refine ⟨(n / ((Int.gcd n d : Nat) : Int), d / ((Int.gcd n d : Nat) : Int)), ?_, ?_, ?_, ?_, ?_⟩
  · unfold mk mkN mkD wt
    rw [if_neg nd, if_neg nd, e1, e2]
  · show (n / ((Int.gcd n d : Nat) : Int)).natAbs ≤ a
    rw [Int.natAbs_ediv_of_dvd k1]
    exact Nat.le_trans (Nat.div_le_self _ _) hn
  · exact Int.ediv_pos_of_pos_of_dvd hd (Int.le_of_lt hgi) k2
  · show (d / ((Int.gcd n d : Nat) : Int)).natAbs ≤ b
    rw [Int.natAbs_ediv_of_dvd k2]
    exact Nat.le_trans (Nat.div_le_self _ _) hb
  · exact Int.gcd_ediv_gcd_ediv_gcd h1
/-! ### what is drawn -/
theorem fdc {N : Nat} {c : Nat} {b : Ss → Fl} {ds : List D} {κ : Kp} {s : Ss} (h1 : (celB (some c) 0 ds && hasC (some c) κ ds.length) = true) (hs : s0 N ds κ = s) : fdef N (some c) true b ds κ = (match b s with
    | .nx s' => .ok .non (s'.cell (some c) [])
    | .rt d s' => .ok d (s'.cell (some c) [])
    | .er x s' => .er x (s'.cell (some c) [])
    | _ => .bad) := by
  unfold fdef
  rw [hs]
  simp only [if_true]
  rw [if_pos h1]
  all_goals (cases b s <;> rfl)
theorem whole_1 (xs : List Int) (p : Int) (hp : 0 ≤ p) (hx : ∀ x ∈ xs, 0 ≤ x) : ∃ v p' : Int, v.natAbs ≤ 1000000 ∧ 0 ≤ p' ∧ d__law_whole [.lst (xs.map .int), .cel] (some [.int p]) = .ok (.int v) (some [.int p']) := by
  have e := fdc (N := 3) (c := 1) (b := b__law_whole) (ds := [.lst (xs.map .int), .cel]) (κ := some [.int p]) (s := ⟨[some (.lst (xs.map .int)), none, none], [none, some (.lst [.int p]), none]⟩) rfl rfl
  have sz5 : (5 : Nat) ≤ sizeLine := by rw [sizeLine_eq]; decide
  obtain ⟨r, hr, o1⟩ := one_1 [.int 1, .int 4, .int 20, .int 1000, .int 1000000] xs p (by simp) hp hx
  have small : ∀ m : Int, 0 < m → m < 1000 → r = .int m → ∃ v p' : Int, v.natAbs ≤ 1000000 ∧ 0 ≤ p' ∧ d__law_whole [.lst (xs.map .int), .cel] (some [.int p]) = .ok (.int v) (some [.int p']) := by
    intro m h1 h2 er
    subst er
    obtain ⟨t, t1, t2, tk⟩ := take_1 xs (p + 1) (2 * m + 1) (by omega) (by omega) hx
    refine ⟨t - m, p + 1 + 1, by omega, by omega, ?_⟩
    refine e.trans ?_
    unfold b__law_whole
    have m1 : dMul (.int 2) (.int m) = some (.int (2 * m)) := dMul_l (by decide)
    simp [dLst, sz5, callK, o1, tk, Ss.put, Ss.cell, Ss.asg, wipeD, h2, m1]
  have great : ∀ m : Int, m = 1000 ∨ m = 1000000 → r = .int m → ∃ v p' : Int, v.natAbs ≤ 1000000 ∧ 0 ≤ p' ∧ d__law_whole [.lst (xs.map .int), .cel] (some [.int p]) = .ok (.int v) (some [.int p']) := by
    intro m h1 er
    subst er
    obtain ⟨r2, hr2, o2⟩ := one_1 [.int 1, .int (-1)] xs (p + 1) (by simp) (by omega) hx
    obtain ⟨t, t1, t2, tk⟩ := take_1 xs (p + 1 + 1) 1000 (by omega) (by omega) hx
    have h2 : ¬ m < 1000 := by omega
    have hs : ∃ g : Int, (g = 1 ∨ g = -1) ∧ r2 = .int g := by
      rcases List.mem_cons.mp hr2 with z | z
      · exact ⟨1, .inl rfl, z⟩
      · exact ⟨-1, .inr rfl, by simpa using z⟩
    obtain ⟨g, hg, rfl⟩ := hs
    have m1 : dMul (.int g) (.int (m - t)) = some (.int (g * (m - t))) := dMul_l (by omega)
    have sz2 : (2 : Nat) ≤ sizeLine := by rw [sizeLine_eq]; decide
    refine ⟨g * (m - t), p + 1 + 1 + 1, by rcases hg with rfl | rfl <;> omega, by omega, ?_⟩
    refine e.trans ?_
    unfold b__law_whole
    simp [dLst, sz5, sz2, callK, o1, o2, tk, Ss.put, Ss.cell, Ss.asg, wipeD, h2, m1]
  simp only [List.mem_cons, List.not_mem_nil, or_false] at hr
  rcases hr with q | q | q | q | q
  · exact small 1 (by decide) (by decide) q
  · exact small 4 (by decide) (by decide) q
  · exact small 20 (by decide) (by decide) q
  · exact great 1000 (.inl rfl) q
  · exact great 1000000 (.inr rfl) q
end LW

set_option Elab.async false
set_option linter.all false
set_option maxRecDepth 100000
namespace LW
open PySem PySem.Spec PyProof.Rows L2 RZ GXS He GH G
/-- a fraction in least terms with bounds -/
structure Bd (a b : Nat) (q : Int × Int) : Prop where
  n : q.1.natAbs ≤ a
  p : 0 < q.2
  d : q.2.natAbs ≤ b
  g : Int.gcd q.1 q.2 = 1
def BdW (a b : Nat) (o : Option (Int × Int)) : Prop := ∀ q, o = some q → Bd a b q
theorem mk_bd {n d : Int} (hd : 0 < d) {a b : Nat} (hn : n.natAbs ≤ a) (hb : d.natAbs ≤ b) : ∃ q : Int × Int, mk n d = wt (some q) ∧ Bd a b q := by
  obtain ⟨q, h1, h2, h3, h4, h5⟩ := mk_sm hd hn hb
  exact ⟨q, h1, h2, h3, h4, h5⟩
theorem Bd.sm {a b : Nat} {q : Int × Int} (h : Bd a b q) (ha : a ≤ 1000000) (hb : b ≤ 1000000) : Sm q.1 q.2 := by
  have h1 := h.n
  have h2 := h.d
  have h3 := h.p
  exact ⟨by omega, by omega, h3, by omega, h.g⟩
theorem BdW.sm {a b : Nat} {o : Option (Int × Int)} (h : BdW a b o) (ha : a ≤ 1000000) (hb : b ≤ 1000000) : SmW o := fun q e => (h q e).sm ha hb
theorem any_1 (xs : List Int) (p : Int) (hp : 0 ≤ p) (hx : ∀ x ∈ xs, 0 ≤ x) : ∃ (o : Option (Int × Int)) (p' : Int), BdW 1000000 1000000 o ∧ 0 ≤ p' ∧ d__law_any [.lst (xs.map .int), .cel] (some [.int p]) = .ok (wt o) (some [.int p']) := by
  have e := fdc (N := 3) (c := 1) (b := b__law_any) (ds := [.lst (xs.map .int), .cel]) (κ := some [.int p]) (s := ⟨[some (.lst (xs.map .int)), none, none], [none, some (.lst [.int p]), none]⟩) rfl rfl
  obtain ⟨t, t1, t2, tk⟩ := take_1 xs p 5 (by omega) hp hx
  obtain ⟨v, p1, hv, hp1, w1⟩ := whole_1 xs (p + 1) (by omega) hx
  obtain ⟨u, p2, hu, hp2, w2⟩ := whole_1 xs p1 hp1 hx
  by_cases z : t = 0
  · refine ⟨none, p + 1, (fun q e => nomatch e), by omega, e.trans ?_⟩
    unfold b__law_any
    simp [callK, tk, Ss.put, Ss.cell, Ss.asg, wipeD, z, dEq_i, wt]
  · have fin : ∀ d : Int, 0 < d → d ≤ 1000000 → d = (if 0 < (v.natAbs : Int) then (v.natAbs : Int) else 1) → ∃ (o : Option (Int × Int)) (p' : Int), BdW 1000000 1000000 o ∧ 0 ≤ p' ∧ d__law_any [.lst (xs.map .int), .cel] (some [.int p]) = .ok (wt o) (some [.int p']) := by
      intro d h1 h2 h3
      obtain ⟨q, q1, q2⟩ := mk_bd (n := u) (d := d) h1 (a := 1000000) (b := 1000000) hu (by omega)
      refine ⟨some q, p2, fun q' e => by cases e; exact q2, hp2, e.trans ?_⟩
      have lm := lmade_1 u d (by omega) (by omega) (by omega)
      rw [q1] at lm
      unfold b__law_any
      by_cases vz : 0 < (v.natAbs : Int)
      · rw [if_pos vz] at h3
        rw [h3] at lm
        have v0 : ¬ v = 0 := by omega
        simp [callK, tk, w1, w2, Ss.put, Ss.cell, Ss.asg, wipeD, z, dEq_i, abs_i, v0, lm]
      · rw [if_neg vz] at h3
        rw [h3] at lm
        have v0 : v = 0 := by omega
        simp [callK, tk, w1, w2, Ss.put, Ss.cell, Ss.asg, wipeD, z, dEq_i, abs_i, v0, lm]
    by_cases vz : 0 < (v.natAbs : Int)
    · exact fin v.natAbs vz (by omega) (by rw [if_pos vz])
    · exact fin 1 (by decide) (by decide) (by rw [if_neg vz])
theorem lweight_1 (xs : List Int) (p : Int) (hp : 0 ≤ p) (hx : ∀ x ∈ xs, 0 ≤ x) : ∃ (o : Option (Int × Int)) (p' : Int), BdW 6 3 o ∧ 0 ≤ p' ∧ d__law_weight [.lst (xs.map .int), .cel] (some [.int p]) = .ok (wt o) (some [.int p']) := by
  have e := fdc (N := 2) (c := 1) (b := b__law_weight) (ds := [.lst (xs.map .int), .cel]) (κ := some [.int p]) (s := ⟨[some (.lst (xs.map .int)), none], [none, some (.lst [.int p])]⟩) rfl rfl
  have sz5 : (5 : Nat) ≤ sizeLine := by rw [sizeLine_eq]; decide
  obtain ⟨t, t1, t2, tk⟩ := take_1 xs p 4 (by omega) hp hx
  obtain ⟨u, u1, u2, uk⟩ := take_1 xs (p + 1) 13 (by omega) (by omega) hx
  obtain ⟨r, hr, o1⟩ := one_1 [.int 1, .int 1, .int 1, .int 2, .int 3] xs (p + 1 + 1) (by simp) (by omega) hx
  by_cases z : t = 0
  · refine ⟨none, p + 1, (fun q e => nomatch e), by omega, e.trans ?_⟩
    unfold b__law_weight
    simp [callK, tk, Ss.put, Ss.cell, Ss.asg, wipeD, z, dEq_i, wt]
  · have hd : ∃ d : Int, r = .int d ∧ 0 < d ∧ d ≤ 3 := by
      simp only [List.mem_cons, List.not_mem_nil, or_false] at hr
      rcases hr with q | q | q | q | q
      · exact ⟨1, q, by decide, by decide⟩
      · exact ⟨1, q, by decide, by decide⟩
      · exact ⟨1, q, by decide, by decide⟩
      · exact ⟨2, q, by decide, by decide⟩
      · exact ⟨3, q, by decide, by decide⟩
    obtain ⟨d, rfl, h1, h2⟩ := hd
    obtain ⟨q, q1, q2⟩ := mk_bd (n := u - 6) (d := d) h1 (a := 6) (b := 3) (by omega) (by omega)
    refine ⟨some q, p + 1 + 1 + 1, fun q' e => by cases e; exact q2, by omega, e.trans ?_⟩
    have lm := lmade_1 (u - 6) d (by omega) (by omega) (by omega)
    rw [q1] at lm
    unfold b__law_weight
    simp [callK, tk, uk, o1, Ss.put, Ss.cell, Ss.asg, wipeD, z, dEq_i, dLst, sz5, lm]
end LW

set_option Elab.async false
set_option linter.all false
set_option maxRecDepth 100000
namespace LW
open PySem PySem.Spec PyProof.Rows L2 RZ GXS He GH G
theorem shw_tup2 {a b : D} {k n m : Nat} (h : Shw a k n) (g : Shw b k m) : Shw (.tup [a, b]) (k + 1) (n + m + 8) := ((shws_cons h (shws_cons g shws0)).tup).mono (by omega) (by omega)
theorem shw_mk {n d : Int} (h : n.natAbs < 10 ^ 30) (k : d.natAbs < 10 ^ 30) : Shw (mk n d) 2 70 := by
  have a : (mkN n d).natAbs < 10 ^ 30 := by
    unfold mkN
    split
    · exact Nat.lt_of_le_of_lt (Int.natAbs_fdiv_le_natAbs _ _) (by rw [Int.natAbs_neg]; exact h)
    · exact Nat.lt_of_le_of_lt (Int.natAbs_fdiv_le_natAbs _ _) h
  have b : (mkD n d).natAbs < 10 ^ 30 := by
    unfold mkD
    split
    · exact Nat.lt_of_le_of_lt (Int.natAbs_fdiv_le_natAbs _ _) (by rw [Int.natAbs_neg]; exact k)
    · exact Nat.lt_of_le_of_lt (Int.natAbs_fdiv_le_natAbs _ _) k
  exact (shw_tup2 (shw_int a) (shw_int b)).mono (by omega) (by omega)
theorem shw_wt {a b : Nat} {o : Option (Int × Int)} (h : BdW a b o) (ha : a ≤ 1000000) (hb : b ≤ 1000000) : Shw (wt o) 2 70 := by
  cases o with
  | none => exact shw_non.mono (by omega) (by omega)
  | some q =>
    have h1 := (h q rfl).n
    have h2 := (h q rfl).d
    have e : (1000000 : Nat) < 10 ^ 30 := by decide
    exact (shw_tup2 (shw_int (i := q.1) (by omega)) (shw_int (i := q.2) (by omega))).mono (by omega) (by omega)
theorem shw_arg : Shw (.tup [.str "argument", .str "other"]) 2 70 ∧ Shw (.tup [.str "argument", .str "count"]) 2 70 ∧ Shw (.tup [.str "argument", .str "row"]) 2 70 :=
  ⟨shw_const rfl (by decide +kernel), shw_const rfl (by decide +kernel), shw_const rfl (by decide +kernel)⟩
theorem shw_list4 {a b c d : D} {k n : Nat} (h1 : Shw a k n) (h2 : Shw b k n) (h3 : Shw c k n) (h4 : Shw d k n) : Shw (.lst [a, b, c, d]) (k + 1) (4 * n + 20) := ((shws_cons h1 (shws_cons h2 (shws_cons h3 (shws_cons h4 shws0)))).lst).mono (by omega) (by omega)
end LW

set_option Elab.async false
set_option linter.all false
set_option maxRecDepth 100000
namespace LW
open PySem PySem.Spec PyProof.Rows L2 RZ GXS He GH G
/-! ### a comprehension whose parts turn the cell -/
theorem comp_cel {vs : List Nat} {tg : Tg} {fs : M (List D)} {fe : M D} {ρ : Sd} {κ κ0 : Kp} {xs : List D} (I : Kp → Prop) (R : D → Prop) (h : fs ρ κ = .ok xs κ0) (h0 : I κ0) (hl : xs.length ≤ sizeLine)
    (he : ∀ d ∈ xs, ∀ κ, I κ → ∃ ρ' y κ', tg d (wipeD ρ vs) = some ρ' ∧ fe ρ' κ = .ok y κ' ∧ R y ∧ I κ') : ∃ ys κ', eComp vs tg fs mTrue fe ρ κ = .ok ys κ' ∧ I κ' ∧ ys.length = xs.length ∧ ∀ y ∈ ys, R y := by
  unfold eComp
  rw [h]
  show ∃ ys κ', (if xs.length ≤ sizeLine then compGo vs tg mTrue fe ρ xs κ0 else .bad) = .ok ys κ' ∧ _
  rw [if_pos hl]
  clear h hl
  induction xs generalizing κ0 with
  | nil => exact ⟨[], κ0, rfl, h0, rfl, fun y hy => nomatch hy⟩
  | cons d r ih =>
    obtain ⟨ρ', y, κ1, h1, h2, h3, h4⟩ := he d List.mem_cons_self κ0 h0
    obtain ⟨ys, κ2, e1, e2, e3, e4⟩ := ih h4 (fun d hd => he d (List.mem_cons_of_mem _ hd))
    refine ⟨y :: ys, κ2, ?_, e2, by simp [e3], fun z hz => ?_⟩
    · unfold compGo
      rw [h1]
      show (match fe ρ' κ0 with
        | .ok y κ2 => (match compGo vs tg mTrue fe ρ r κ2 with
          | .ok ys κ3 => Out.ok (y :: ys) κ3
          | _ => .bad)
        | _ => .bad) = _
      rw [h2]
      dsimp only
      rw [e1]
    · rcases List.mem_cons.mp hz with rfl | hz
      · exact h3
      · exact e4 z hz
/-- rows of weights -/
def rowD (ws : List (Option (Int × Int))) : List D := ws.map wt
theorem row_of {a b : Nat} : ∀ (ys : List D), (∀ y ∈ ys, ∃ o, y = wt o ∧ BdW a b o) → ∃ ws : List (Option (Int × Int)), ys = rowD ws ∧ ∀ o ∈ ws, BdW a b o
  | [], _ => ⟨[], rfl, fun o h => nomatch h⟩
  | y :: ys, h => by
    obtain ⟨o, e1, e2⟩ := h y List.mem_cons_self
    obtain ⟨ws, e3, e4⟩ := row_of ys fun z hz => h z (List.mem_cons_of_mem _ hz)
    refine ⟨o :: ws, by rw [e1, e3]; rfl, fun q hq => ?_⟩
    rcases List.mem_cons.mp hq with rfl | hq
    · exact e2
    · exact e4 q hq
/-- the sum with a small step is small again -/
theorem plW_bd {o : Option (Int × Int)} {q : Int × Int} (h : BdW 6 3 o) (k : Bd 6 2 q) : ∃ p, plW o (some q) = wt p ∧ BdW 30 6 p ∧ p.isNone = o.isNone := by
  cases o with
  | none => exact ⟨none, rfl, fun q e => (nomatch e), rfl⟩
  | some a =>
    have h' := h a rfl
    have h1 := h'.n
    have h2 := h'.p
    have h3 := h'.d
    have k1 := k.n
    have k2 := k.p
    have k3 := k.d
    have d1 : a.2 = 1 ∨ a.2 = 2 ∨ a.2 = 3 := by omega
    have d2 : q.2 = 1 ∨ q.2 = 2 := by omega
    obtain ⟨r, r1, r2⟩ := mk_bd (n := a.1 * q.2 + q.1 * a.2) (d := a.2 * q.2) (a := 30) (b := 6) (by rcases d1 with e | e | e <;> rcases d2 with f | f <;> rw [e, f] <;> decide)
      (by rcases d1 with e | e | e <;> rcases d2 with f | f <;> rw [e, f] <;> omega) (by rcases d1 with e | e | e <;> rcases d2 with f | f <;> rw [e, f] <;> decide)
    exact ⟨some r, r1, fun q' e => by cases e; exact r2, rfl⟩
end LW

set_option Elab.async false
set_option linter.all false
set_option maxRecDepth 100000
namespace LW
open PySem PySem.Spec PyProof.Rows L2 RZ GXS He GH G
/-! ### shifts: what the program does -/
abbrev Wt := Option (Int × Int)
theorem dNe_wt (p q : Int × Int) : dNe (wt (some p)) (wt (some q)) = some (.bl (!decide (p = q))) := by
  obtain ⟨a, b⟩ := p
  obtain ⟨c, d⟩ := q
  show some (D.bl (!(a == c && (b == d && true)))) = _
  congr 2
  by_cases h1 : a = c <;> by_cases h2 : b = d <;> simp [h1, h2]
theorem dNe_b (a b : Bool) : dNe (.bl a) (.bl b) = some (.bl (!decide (a = b))) := by cases a <;> cases b <;> rfl
/-- the gap between two fractions -/
def gp (b a : Int × Int) : Int × Int := (mkN (b.1 * (neg1 a).2 + (neg1 a).1 * b.2) (b.2 * (neg1 a).2), mkD (b.1 * (neg1 a).2 + (neg1 a).1 * b.2) (b.2 * (neg1 a).2))
theorem less_gp (b a : Int × Int) : lessW (some b) a = wt (some (gp b a)) := rfl
/-- none: the rows have no shift; what is found up to here: f -/
def shP : Wt → List (Wt × Wt) → Wt
  | f, [] => f
  | f, (none, none) :: r => shP f r
  | f, (some a, some b) :: r => match f with
    | none => shP (some (gp b a)) r
    | some g => if g = gp b a then shP (some (gp b a)) r else none
  | _, _ => none
def pD (q : Wt × Wt) : D := .tup [wt q.1, wt q.2]
theorem shift_go (R O : D) : ∀ (prs : List (Wt × Wt)) (f : Wt) (x3 x4 x5 : Option D), (∀ q ∈ prs, DnW q.1 ∧ DnW q.2) → ∃ s, (forGo [3, 4] (tTup 2 (tsCons (tName 3) (tsCons (tName 4) tsNil))) l1_shift_of (prs.map pD) ⟨[some R, some O, some (wt f), x3, x4, x5], [none, none, none, none, none, none]⟩ = .nx s ∧ s.ρ[2]? = some (some (wt (shP f prs)))) ∨
    (forGo [3, 4] (tTup 2 (tsCons (tName 3) (tsCons (tName 4) tsNil))) l1_shift_of (prs.map pD) ⟨[some R, some O, some (wt f), x3, x4, x5], [none, none, none, none, none, none]⟩ = .rt .non s ∧ shP f prs = none)
  | [], f, x3, x4, x5, _ => ⟨_, .inl ⟨rfl, rfl⟩⟩
  | (a, b) :: r, f, x3, x4, x5, hd => by
    have hr : ∀ q ∈ r, DnW q.1 ∧ DnW q.2 := fun q h => hd q (List.mem_cons_of_mem _ h)
    obtain ⟨ha, hb⟩ := hd (a, b) List.mem_cons_self
    have tg : tTup 2 (tsCons (tName 3) (tsCons (tName 4) tsNil)) (pD (a, b)) [some R, some O, some (wt f), x3, x4, x5] = some [some R, some O, some (wt f), some (wt a), some (wt b), x5] := rfl
    rw [List.map_cons]
    unfold forGo
    rw [tg]
    have as : Ss.asg [3, 4] [some R, some O, some (wt f), some (wt a), some (wt b), x5] ⟨[some R, some O, some (wt f), x3, x4, x5], [none, none, none, none, none, none]⟩ = ⟨[some R, some O, some (wt f), some (wt a), some (wt b), x5], [none, none, none, none, none, none]⟩ := rfl
    dsimp only
    rw [as]
    cases a with
    | none =>
      cases b with
      | none =>
        have e : l1_shift_of ⟨[some R, some O, some (wt f), some (wt none), some (wt none), x5], [none, none, none, none, none, none]⟩ = .nx ⟨[some R, some O, some (wt f), some (wt none), some (wt none), x5], [none, none, none, none, none, none]⟩ := by
          unfold l1_shift_of
          simp [dIsN, dNotN, dNe_b]
        rw [e]
        exact shift_go R O r f _ _ _ hr
      | some b =>
        have e : l1_shift_of ⟨[some R, some O, some (wt f), some (wt none), some (wt (some b)), x5], [none, none, none, none, none, none]⟩ = .rt .non ⟨[some R, some O, some (wt f), some (wt none), some (wt (some b)), x5], [none, none, none, none, none, none]⟩ := by
          unfold l1_shift_of
          simp [dIsN, dNotN, dNe_b]
        rw [e]
        exact ⟨_, .inr ⟨rfl, by unfold shP; rfl⟩⟩
    | some a =>
      cases b with
      | none =>
        have e : l1_shift_of ⟨[some R, some O, some (wt f), some (wt (some a)), some (wt none), x5], [none, none, none, none, none, none]⟩ = .rt .non ⟨[some R, some O, some (wt f), some (wt (some a)), some (wt none), x5], [none, none, none, none, none, none]⟩ := by
          unfold l1_shift_of
          simp [dIsN, dNotN, dNe_b]
        rw [e]
        exact ⟨_, .inr ⟨rfl, by unfold shP; rfl⟩⟩
      | some b =>
        have ad := added_1 (a := b) (b := neg1 a) (hb b rfl) (ha a rfl)
        have ad' : d_added [wt (some b), wt (some (neg1 a))] none = .ok (wt (some (gp b a))) none := ad
        have ng := negated_1 a
        cases f with
        | none =>
          have e : l1_shift_of ⟨[some R, some O, some (wt none), some (wt (some a)), some (wt (some b)), x5], [none, none, none, none, none, none]⟩ = .nx ⟨[some R, some O, some (wt (some (gp b a))), some (wt (some a)), some (wt (some b)), some (wt (some (gp b a)))], [none, none, none, none, none, none]⟩ := by
            unfold l1_shift_of
            simp [dIsN, dNotN, dNe_b, callK, noCel_w, ng, ad', Ss.asg, wipeD]
          rw [e]
          exact shift_go R O r (some (gp b a)) _ _ _ hr
        | some g =>
          by_cases hg : g = gp b a
          · have e : l1_shift_of ⟨[some R, some O, some (wt (some g)), some (wt (some a)), some (wt (some b)), x5], [none, none, none, none, none, none]⟩ = .nx ⟨[some R, some O, some (wt (some (gp b a))), some (wt (some a)), some (wt (some b)), some (wt (some (gp b a)))], [none, none, none, none, none, none]⟩ := by
              unfold l1_shift_of
              simp [dIsN, dNotN, dNe_b, dNe_wt, callK, noCel_w, ng, ad', Ss.asg, wipeD, hg]
            rw [e]
            have z : shP (some g) ((some a, some b) :: r) = shP (some (gp b a)) r := by
              conv => lhs; unfold shP
              simp [hg]
            rw [z]
            exact shift_go R O r (some (gp b a)) _ _ _ hr
          · have e : ∃ s, l1_shift_of ⟨[some R, some O, some (wt (some g)), some (wt (some a)), some (wt (some b)), x5], [none, none, none, none, none, none]⟩ = .rt .non s := by
              unfold l1_shift_of
              simp [dIsN, dNotN, dNe_b, dNe_wt, callK, noCel_w, ng, ad', Ss.asg, wipeD, hg]
            obtain ⟨s, e⟩ := e
            rw [e]
            exact ⟨_, .inr ⟨rfl, by unfold shP; simp [hg]⟩⟩
end LW

set_option Elab.async false
set_option linter.all false
set_option maxRecDepth 100000
namespace LW
open PySem PySem.Spec PyProof.Rows L2 RZ GXS He GH G
theorem zip_row : ∀ (ws vs : List Wt), zipD (rowD ws) (rowD vs) = (ws.zip vs).map pD
  | [], vs => by cases vs <;> rfl
  | w :: ws, [] => rfl
  | w :: ws, v :: vs => by
    show D.tup [wt w, wt v] :: zipD (rowD ws) (rowD vs) = _
    rw [zip_row ws vs]
    rfl
theorem shift_of_1 {ws vs : List Wt} (h : ∀ o ∈ ws, DnW o) (k : ∀ o ∈ vs, DnW o) : d_shift_of [.tup (rowD ws), .tup (rowD vs)] none = .ok (wt (shP none (ws.zip vs))) none := by
  refine (fd (b := b_shift_of) (s := ⟨[some (.tup (rowD ws)), some (.tup (rowD vs)), none, none, none, none], [none, none, none, none, none, none]⟩) rfl rfl).trans ?_
  unfold b_shift_of
  obtain ⟨s, e | e⟩ := shift_go (.tup (rowD ws)) (.tup (rowD vs)) (ws.zip vs) none none none none (fun q hq => ⟨h q.1 (List.of_mem_zip hq).1, k q.2 (List.of_mem_zip hq).2⟩)
  · obtain ⟨e1, e2⟩ := e
    have wn : wt none = D.non := rfl
    rw [wn] at e1
    simp [dZip, zip_row, Ss.asg, wipeD, e1, e2]
  · obtain ⟨e1, e2⟩ := e
    have wn : wt none = D.non := rfl
    rw [wn] at e1
    rw [e2]
    simp [dZip, zip_row, Ss.asg, wipeD, e1]
    rfl
theorem isT_n {xs : List D} : dIsi "tuple" [.tup xs] = some (.bl true) := rfl
theorem all_true : ∀ n : Nat, dAll [.lst (List.replicate n (.bl true))] = some (.bl true) := by
  intro n
  have h : D.bls (List.replicate n (.bl true)) = some (List.replicate n true) := by
    induction n with
    | zero => rfl
    | succ n ih => rw [List.replicate_succ, List.replicate_succ]; unfold D.bls; rw [ih]; rfl
  unfold dAll
  simp [h]
theorem isrow_1 {ws : List Wt} (h : ∀ o ∈ ws, SmW o) {a b : Int} (ha : a ≤ ws.length) (hb : ws.length ≤ b) (hz : ws.length ≤ 1000) : d_is_row [.tup (rowD ws), .int a, .int b] none = .ok (.bl true) none := by
  refine (fd (b := b_is_row) (s := ⟨[some (.tup (rowD ws)), some (.int a), some (.int b), none], [none, none, none, none]⟩) rfl rfl).trans ?_
  unfold b_is_row
  have hl : (rowD ws).length = ws.length := by unfold rowD; simp
  have cp : eComp [3] (tName 3) (iOf (eVar 0)) mTrue (eCall 1 d_is_small_weight (aCons (eVar 3) aNil)) [some (.tup (rowD ws)), some (.int a), some (.int b), none] none = .ok ((rowD ws).map fun _ => .bl true) none := by
    refine (comp_ok (xs := rowD ws) (fun _ => .bl true) (by simp) (by rw [sizeLine_eq, hl]; omega) fun e he => ?_)
    obtain ⟨o, ho, rfl⟩ := List.mem_map.mp he
    refine ⟨_, rfl, ?_⟩
    simp [callK, noCel_w, smw_1 (h o ho), wipeD]
  have er : ((rowD ws).map fun _ => D.bl true) = List.replicate ws.length (.bl true) := by
    rw [List.map_const', hl]
  rw [er] at cp
  simp [isT_n, eChain, dLen_t, hl, ha, hb, cp, all_true]
end LW

set_option Elab.async false
set_option linter.all false
set_option maxRecDepth 100000
namespace LW
open PySem PySem.Spec PyProof.Rows L2 RZ GXS He GH G
theorem demrow_1 {ws : List Wt} (h : ∀ o ∈ ws, SmW o) (hz : ws.length ≤ 1000) (x : Str) : d_demand_row [.tup (rowD ws), .int ws.length, .str x] none = .ok .non none := by
  refine (fd (b := b_demand_row) (s := ⟨[some (.tup (rowD ws)), some (.int ws.length), some (.str x)], [none, none, none]⟩) rfl rfl).trans ?_
  unfold b_demand_row
  have e := isrow_1 h (a := ws.length) (b := ws.length) (Int.le_refl _) (Int.le_refl _) hz
  simp [callK, e]
theorem bls_map (l : List Bool) : D.bls (l.map .bl) = some l := by
  induction l with
  | nil => rfl
  | cons b t ih => rw [List.map_cons]; unfold D.bls; rw [ih]; rfl
theorem all_map (l : List Bool) : dAll [.lst (l.map .bl)] = some (.bl (l.all id)) := by
  unfold dAll
  simp [bls_map]
theorem allnon_1 {ws : List Wt} {a : D} (hz : ws.length ≤ 1000) : eComp [2] (tName 2) (iOf (eVar 0)) mTrue (eBin dIsN (eVar 2) (eC .non)) [some (.tup (rowD ws)), some a, none] none = .ok ((ws.map fun o => o.isNone).map .bl) none := by
  have hl : (rowD ws).length = ws.length := by unfold rowD; simp
  refine (comp_ok (xs := rowD ws) (fun d => .bl d.isN) (by simp) (by rw [sizeLine_eq, hl]; omega) fun e he => ?_).trans ?_
  · obtain ⟨o, ho, rfl⟩ := List.mem_map.mp he
    exact ⟨_, rfl, by simp [dIsN, wipeD]⟩
  · unfold rowD
    rw [List.map_map, List.map_map]
    congr 2
    funext o
    simp
theorem between_1 {ws vs : List Wt} (h : ∀ o ∈ ws, SmW o) (k : ∀ o ∈ vs, SmW o) (hl : vs.length = ws.length) (h1 : 1 ≤ ws.length) (h2 : ws.length ≤ 64) (hn : (ws.map fun o => o.isNone).all id = false) : d_shift_between [.tup (rowD ws), .tup (rowD vs)] none = .ok (wt (shP none (ws.zip vs))) none := by
  refine (fd (b := b_shift_between) (s := ⟨[some (.tup (rowD ws)), some (.tup (rowD vs)), none], [none, none, none]⟩) rfl rfl).trans ?_
  unfold b_shift_between
  have e1 := isrow_1 h (a := 1) (b := 64) (by omega) (by omega) (by omega)
  have e2 := demrow_1 k (by omega) "other"
  rw [hl] at e2
  have e3 := shift_of_1 (fun o q => (h o q).dn) (fun o q => (k o q).dn)
  have e4 := allnon_1 (ws := ws) (a := .tup (rowD vs)) (by omega)
  have e5 := all_map (ws.map fun o => o.isNone)
  rw [hn] at e5
  have hr : (rowD ws).length = ws.length := by unfold rowD; simp
  simp only [List.map_map] at e4 e5
  simp [callK, e1, e4, e5, dLen_t, hr, e2, e3]
theorem between_0 {ws : List Wt} {vs : List D} (h : ∀ o ∈ ws, SmW o) (h1 : 1 ≤ ws.length) (h2 : ws.length ≤ 64) (hn : (ws.map fun o => o.isNone).all id = true) : d_shift_between [.tup (rowD ws), .tup vs] none = .er (raiseA "row") none := by
  refine (fd (b := b_shift_between) (s := ⟨[some (.tup (rowD ws)), some (.tup vs), none], [none, none, none]⟩) rfl rfl).trans ?_
  unfold b_shift_between
  have e1 := isrow_1 h (a := 1) (b := 64) (by omega) (by omega) (by omega)
  have e4 := allnon_1 (ws := ws) (a := .tup vs) (by omega)
  have e5 := all_map (ws.map fun o => o.isNone)
  rw [hn] at e5
  simp only [List.map_map] at e4 e5
  simp [callK, e1, e4, e5]
  rfl
end LW

set_option Elab.async false
set_option linter.all false
set_option maxRecDepth 100000
namespace LW
open PySem PySem.Spec PyProof.Rows L2 RZ GXS He GH G
/-- a comprehension with a test, that reads alone -/
theorem comp_if {vs : List Nat} {tg : Tg} {fs : M (List D)} {ft : M Bool} {fe : M D} {ρ : Sd} {κ : Kp} {xs : List D} (t : D → Bool) (g : D → D) (h : fs ρ κ = .ok xs κ) (hl : xs.length ≤ sizeLine)
    (he : ∀ d ∈ xs, ∃ ρ', tg d (wipeD ρ vs) = some ρ' ∧ ft ρ' κ = .ok (t d) κ ∧ (t d = true → fe ρ' κ = .ok (g d) κ)) : eComp vs tg fs ft fe ρ κ = .ok ((xs.filter t).map g) κ := by
  unfold eComp
  rw [h]
  show (if xs.length ≤ sizeLine then compGo vs tg ft fe ρ xs κ else .bad) = _
  rw [if_pos hl]
  clear h hl
  induction xs with
  | nil => rfl
  | cons d r ih =>
    obtain ⟨ρ', h1, h2, h3⟩ := he d List.mem_cons_self
    have ih' := ih fun d hd => he d (List.mem_cons_of_mem _ hd)
    unfold compGo
    rw [h1]
    dsimp only
    rw [h2]
    cases z : t d with
    | true =>
      dsimp only
      rw [h3 z]
      dsimp only
      rw [ih', List.filter_cons_of_pos z]
      rfl
    | false =>
      dsimp only
      rw [ih', List.filter_cons_of_neg (by rw [z]; decide)]
/-- one dict key -/
theorem addKs_one (k : Ks) : ∀ (l : List Ks), (∀ x ∈ l, x = k) → addKs [k] l = [k]
  | [], _ => rfl
  | x :: l, h => by
    have e : x = k := h x List.mem_cons_self
    subst e
    unfold addKs
    have q : hasK [x] x = true := by simp [hasK]
    rw [q]
    exact addKs_one x l fun y hy => h y (List.mem_cons_of_mem _ hy)
theorem addKs_grow : ∀ (l acc : List Ks), acc.length ≤ (addKs acc l).length
  | [], acc => by unfold addKs; exact Nat.le_refl _
  | x :: l, acc => by
    unfold addKs
    split
    · exact addKs_grow l acc
    · have := addKs_grow l (acc ++ [x])
      rw [List.length_append] at this
      omega
theorem addKs_two (k : Ks) : ∀ (l : List Ks), (∃ x ∈ l, x ≠ k) → 2 ≤ (addKs [k] l).length
  | [], h => by obtain ⟨x, hx, _⟩ := h; exact nomatch hx
  | x :: l, h => by
    unfold addKs
    by_cases e : x = k
    · subst e
      have q : hasK [x] x = true := by simp [hasK]
      rw [q]
      refine addKs_two x l ?_
      obtain ⟨y, hy, hn⟩ := h
      rcases List.mem_cons.mp hy with rfl | hy
      · exact absurd rfl hn
      · exact ⟨y, hy, hn⟩
    · have q : hasK [k] x = false := by
        have e' : ¬ k = x := fun z => e z.symm
        simp [hasK, e']
      rw [q]
      exact addKs_grow l ([k] ++ [x])
end LW

set_option Elab.async false
set_option linter.all false
set_option maxRecDepth 100000
namespace LW
open PySem PySem.Spec PyProof.Rows L2 RZ GXS He GH G
/-! ### a list beside the empty one -/
structure Pls (ds : List D) (ps : List PyData) : Prop where
  p : D.ps ds = some ps
  c : PyData.canLayAll0 ps = true
  d : PyData.depthAll ps ≤ 60
theorem Pls.nil : Pls [] [] := ⟨rfl, rfl, by simp [PyData.depthAll]⟩
theorem Pls.cons {d : D} {p : PyData} {ds : List D} {ps : List PyData} (h1 : d.p = some p) (h2 : p.canLay0 = true) (h3 : p.depth ≤ 60) (t : Pls ds ps) : Pls (d :: ds) (p :: ps) := by
  refine ⟨?_, ?_, ?_⟩
  · simp [D.ps, h1, t.p]
  · simp [PyData.canLayAll0, h2, t.c]
  · have := t.d
    simp [PyData.depthAll]
    omega
theorem Pls.sh {ds : List D} {ps : List PyData} (h : Pls ds ps) : (D.lst ds).sh = some (.list ps) := by
  have e : (D.lst ds).p = some (.list ps) := by
    show (D.ps ds).map PyData.list = _
    rw [h.p]; rfl
  unfold D.sh
  rw [e]
  have q : SeqAt.shaped (.list ps) = true := by
    unfold SeqAt.shaped
    rw [Bool.and_eq_true]
    refine ⟨by simpa [PyData.canLay0] using h.c, decide_eq_true ?_⟩
    have := h.d
    simp [PyData.depth]
    omega
  dsimp only
  rw [if_pos q]
theorem Pls.len {ds : List D} {ps : List PyData} : D.ps ds = some ps → ds.isEmpty = ps.isEmpty := by
  intro h
  cases ds with
  | nil => cases h; rfl
  | cons d r =>
    cases ps with
    | nil =>
      simp only [D.ps] at h
      split at h <;> simp at h
    | cons p q => rfl
theorem dNe_nil {ds : List D} {ps : List PyData} (h : Pls ds ps) : dNe (.lst ds) (.lst []) = some (.bl (!ds.isEmpty)) := by
  have e := h.sh
  have e0 : (D.lst []).sh = some (.list []) := Pls.nil.sh
  unfold dNe
  rw [e, e0]
  show some (D.bl (!PyData.eqv (.list ps) (.list []))) = _
  rw [Pls.len h.p]
  cases ps <;> simp [PyData.eqv, PyData.eqvAll]
theorem dEq_nil {ds : List D} {ps : List PyData} (h : Pls ds ps) : dEq (.lst ds) (.lst []) = some (.bl ds.isEmpty) := by
  have e := h.sh
  have e0 : (D.lst []).sh = some (.list []) := Pls.nil.sh
  unfold dEq
  rw [e, e0]
  show some (D.bl (PyData.eqv (.list ps) (.list []))) = _
  rw [Pls.len h.p]
  cases ps <;> simp [PyData.eqv, PyData.eqvAll]
theorem pls_ints : ∀ l : List Int, ∃ ps, Pls (l.map .int) ps
  | [] => ⟨_, Pls.nil⟩
  | i :: l => by
    obtain ⟨ps, h⟩ := pls_ints l
    exact ⟨_, Pls.cons (d := .int i) rfl rfl (by simp [PyData.depth]) h⟩
theorem pls_row : ∀ ws : List Wt, ∃ ps, Pls (rowD ws) ps
  | [] => ⟨_, Pls.nil⟩
  | none :: l => by
    obtain ⟨ps, h⟩ := pls_row l
    exact ⟨_, Pls.cons (d := .non) rfl rfl (by simp [PyData.depth]) h⟩
  | some q :: l => by
    obtain ⟨ps, h⟩ := pls_row l
    exact ⟨_, Pls.cons (d := .tup [.int q.1, .int q.2]) rfl rfl (by simp [PyData.depth, PyData.depthAll]) h⟩
end LW

set_option Elab.async false
set_option linter.all false
set_option maxRecDepth 100000
namespace LW
open PySem PySem.Spec PyProof.Rows L2 RZ GXS He GH G
/-! ### shifts: what is told of them -/
def gapsOf : List (Wt × Wt) → List (Int × Int)
  | [] => []
  | (some a, some b) :: r => gp b a :: gapsOf r
  | _ :: r => gapsOf r
def alike (prs : List (Wt × Wt)) : Bool := prs.all fun q => q.1.isNone == q.2.isNone
theorem shP_mis : ∀ (prs : List (Wt × Wt)) (f : Wt), alike prs = false → shP f prs = none
  | [], f, h => by simp [alike] at h
  | (none, none) :: r, f, h => by
    unfold shP
    exact shP_mis r f (by simpa [alike] using h)
  | (none, some b) :: r, f, h => by unfold shP; rfl
  | (some a, none) :: r, f, h => by unfold shP; rfl
  | (some a, some b) :: r, f, h => by
    have h' : alike r = false := by simpa [alike] using h
    unfold shP
    cases f with
    | none => exact shP_mis r _ h'
    | some g =>
      dsimp only
      split
      · exact shP_mis r _ h'
      · rfl
theorem shP_some : ∀ (prs : List (Wt × Wt)) (g : Int × Int), alike prs = true → shP (some g) prs = if (gapsOf prs).all (fun x => decide (x = g)) = true then some g else none
  | [], g, h => rfl
  | (none, none) :: r, g, h => by
    unfold shP gapsOf
    exact shP_some r g (by simpa [alike] using h)
  | (none, some b) :: r, g, h => by simp [alike] at h
  | (some a, none) :: r, g, h => by simp [alike] at h
  | (some a, some b) :: r, g, h => by
    have h' : alike r = true := by simpa [alike] using h
    unfold shP gapsOf
    dsimp only
    by_cases e : g = gp b a
    · subst e
      have q : decide (gp b a = gp b a) = true := decide_eq_true rfl
      rw [if_pos rfl, shP_some r _ h', List.all_cons, q, Bool.true_and]
    · have e' : ¬ gp b a = g := fun z => e z.symm
      rw [if_neg e]
      simp [e']
theorem shP_none : ∀ (prs : List (Wt × Wt)), alike prs = true → shP none prs = (match gapsOf prs with
    | [] => none
    | g :: r => if r.all (fun x => decide (x = g)) = true then some g else none)
  | [], h => rfl
  | (none, none) :: r, h => by
    unfold shP gapsOf
    exact shP_none r (by simpa [alike] using h)
  | (none, some b) :: r, h => by simp [alike] at h
  | (some a, none) :: r, h => by simp [alike] at h
  | (some a, some b) :: r, h => by
    have h' : alike r = true := by simpa [alike] using h
    unfold shP gapsOf
    dsimp only
    rw [shP_some r _ h']
end LW

set_option Elab.async false
set_option linter.all false
set_option maxRecDepth 100000
namespace LW
open PySem PySem.Spec PyProof.Rows L2 RZ GXS He GH G
theorem rangeD_cons (lo : Int) (n : Nat) : rangeD lo (n + 1) = .int lo :: rangeD (lo + 1) n := by
  apply List.ext_getElem?
  intro j
  cases j with
  | zero =>
    unfold rangeD
    simp
  | succ j =>
    rw [List.getElem?_cons_succ]
    unfold rangeD
    simp [List.getElem?_map, List.getElem?_range]
    by_cases h : j < n
    · simp [h]; omega
    · simp [h]
/-- by places, by pairs -/
theorem by_pairs {α : Type} {t : D → Bool} {g : D → D} {t' : α → Bool} {g' : α → D} : ∀ (prs : List α) (lo : Int), (∀ (j : Nat) (q : α), prs[j]? = some q → t (.int (lo + (j : Nat))) = t' q ∧ g (.int (lo + (j : Nat))) = g' q) →
    ((rangeD lo prs.length).filter t).map g = (prs.filter t').map g'
  | [], lo, _ => by simp [rangeD]
  | q :: r, lo, h => by
    obtain ⟨h1, h2⟩ := h 0 q rfl
    have h1 : t (.int lo) = t' q := by simpa using h1
    have h2 : g (.int lo) = g' q := by simpa using h2
    have ih := by_pairs (t := t) (g := g) (t' := t') (g' := g') r (lo + 1) fun j q' e => by
      have := h (j + 1) q' (by simpa using e)
      have e2 : lo + 1 + (j : Nat) = lo + ((j + 1 : Nat) : Int) := by omega
      rw [e2]
      exact this
    rw [List.length_cons, rangeD_cons, List.filter_cons, List.filter_cons, h1]
    by_cases z : t' q = true
    · rw [if_pos z, if_pos z, List.map_cons, List.map_cons, h2, ih]
    · rw [if_neg z, if_neg z, ih]
end LW

set_option Elab.async false
set_option linter.all false
set_option maxRecDepth 100000
namespace LW
open PySem PySem.Spec PyProof.Rows L2 RZ GXS He GH G
def isP (prs : List (Wt × Wt)) (t : Wt × Wt → Bool) : D → Bool
  | .int i => match prs[i.toNat]? with
    | some q => t q
    | none => false
  | _ => false
theorem at_row {ws : List Wt} {j : Nat} {o : Wt} (h : ws[j]? = some o) : dIx (.tup (rowD ws)) (.int (0 + (j : Nat))) = some (wt o) := by
  refine dIx_tup (by omega) ?_
  have e : (0 + (j : Int)).toNat = j := by omega
  rw [e]
  unfold rowD
  rw [List.getElem?_map, h]
  rfl
theorem zip_at {ws vs : List Wt} (hl : vs.length = ws.length) {j : Nat} (hj : j < ws.length) : ∃ a b, ws[j]? = some a ∧ vs[j]? = some b ∧ (ws.zip vs)[j]? = some (a, b) := by
  have h1 : ws[j]? = some ws[j] := List.getElem?_eq_getElem hj
  have h2 : vs[j]? = some (vs[j]'(by omega)) := List.getElem?_eq_getElem (by omega)
  exact ⟨_, _, h1, h2, by rw [List.getElem?_zip_eq_some]; exact ⟨h1, h2⟩⟩
theorem isP_at {prs : List (Wt × Wt)} {t : Wt × Wt → Bool} {j : Nat} {q : Wt × Wt} (h : prs[j]? = some q) : isP prs t (.int (0 + (j : Nat))) = t q := by
  unfold isP
  have e : (0 + (j : Int)).toNat = j := by omega
  dsimp only
  rw [e, h]
theorem src_1 {xs : List D} {O : D} {x2 x3 : Option D} {gi : Int} {r : List D} (h1 : dLen [.tup xs] = some (.int gi)) (h2 : dRange1 [.int gi] = some r) : (iArgs dRange1 (aCons (eArgs dLen (aCons (eVar 0) aNil)) aNil)) [some (.tup xs), some O, x2, x3] none = .ok r none := by
  simp [h1, h2]
theorem rng_1 (n : Nat) (h : n ≤ 1000) : dRange1 [.int ((n : Nat) : Int)] = some (rangeD 0 n) := by
  have e := dRange_i (n := ((n : Nat) : Int)) ⟨by omega, by omega⟩
  rw [e, Int.toNat_natCast]
theorem mis_1 {ws vs : List Wt} (hl : vs.length = ws.length) (hz : ws.length ≤ 1000) (x3 : Option D) : eComp [2] (tName 2) (iArgs dRange1 (aCons (eArgs dLen (aCons (eVar 0) aNil)) aNil)) (tBl (eBin dNe (eBin dIsN (eBin dIx (eVar 0) (eVar 2)) (eC .non)) (eBin dIsN (eBin dIx (eVar 1) (eVar 2)) (eC .non)))) (eVar 2) [some (.tup (rowD ws)), some (.tup (rowD vs)), none, x3] none
    = .ok (((rangeD 0 ws.length).filter (isP (ws.zip vs) fun q => !decide (q.1.isNone = q.2.isNone))).map fun d => d) none := by
  have hr : (rowD ws).length = ws.length := by unfold rowD; simp
  refine comp_if (xs := rangeD 0 ws.length) _ (fun d => d) ?_ (by rw [sizeLine_eq, rangeD_len]; omega) fun d hd => ?_
  · exact src_1 (gi := ((ws.length : Nat) : Int)) (by rw [dLen_t, hr]) (rng_1 ws.length hz)
  · obtain ⟨j, hj, rfl⟩ := range_mem hd
    obtain ⟨a, b, h1, h2, h3⟩ := zip_at hl hj
    refine ⟨_, rfl, ?_, fun _ => ?_⟩
    · rw [isP_at h3]
      have q1 := at_row h1
      have q2 := at_row h2
      simp only [Int.zero_add] at q1 q2
      simp [wipeD, q1, q2, dIsN, dNe_b]
    · simp [wipeD]
end LW

set_option Elab.async false
set_option linter.all false
set_option maxRecDepth 100000
namespace LW
open PySem PySem.Spec PyProof.Rows L2 RZ GXS He GH G
def bothP (q : Wt × Wt) : Bool := q.1.isSome
def gapD (q : Wt × Wt) : D := match q.1 with
  | some a => .tup [lessW q.2 a, .int 0]
  | none => .non
def gapI (prs : List (Wt × Wt)) : D → D
  | .int i => match prs[i.toNat]? with
    | some q => gapD q
    | none => .non
  | _ => .non
theorem gapI_at {prs : List (Wt × Wt)} {j : Nat} {q : Wt × Wt} (h : prs[j]? = some q) : gapI prs (.int (0 + (j : Nat))) = gapD q := by
  unfold gapI
  have e : (0 + (j : Int)).toNat = j := by omega
  dsimp only
  rw [e, h]
theorem gaps_1 {ws vs : List Wt} (hw : ∀ o ∈ ws, DnW o) (hv : ∀ o ∈ vs, DnW o) (hl : vs.length = ws.length) (hz : ws.length ≤ 1000) (x3 : Option D) : eComp [2] (tName 2) (iArgs dRange1 (aCons (eArgs dLen (aCons (eVar 0) aNil)) aNil)) (tBl (eBin dNotN (eBin dIx (eVar 0) (eVar 2)) (eC .non))) (eArgs dTup (aCons (eCall 2 d__law_less (aCons (eBin dIx (eVar 1) (eVar 2)) (aCons (eBin dIx (eVar 0) (eVar 2)) aNil))) (aCons (eC (.int 0)) aNil))) [some (.tup (rowD ws)), some (.tup (rowD vs)), none, x3] none
    = .ok (((ws.zip vs).filter bothP).map gapD) none := by
  have hr : (rowD ws).length = ws.length := by unfold rowD; simp
  have hp : (ws.zip vs).length = ws.length := by rw [List.length_zip, hl, Nat.min_self]
  have e := by_pairs (t := isP (ws.zip vs) bothP) (g := gapI (ws.zip vs)) (t' := bothP) (g' := gapD) (ws.zip vs) 0 fun j q h => ⟨isP_at h, gapI_at h⟩
  rw [hp] at e
  rw [← e]
  refine comp_if (xs := rangeD 0 ws.length) _ _ ?_ (by rw [sizeLine_eq, rangeD_len]; omega) fun d hd => ?_
  · exact src_1 (gi := ((ws.length : Nat) : Int)) (by rw [dLen_t, hr]) (rng_1 ws.length hz)
  · obtain ⟨j, hj, rfl⟩ := range_mem hd
    obtain ⟨a, b, h1, h2, h3⟩ := zip_at hl hj
    have q1 := at_row h1
    have q2 := at_row h2
    simp only [Int.zero_add] at q1 q2
    refine ⟨_, rfl, ?_, fun hs => ?_⟩
    · rw [isP_at h3]
      cases a <;> simp [wipeD, q1, q2, dNotN, bothP]
    · rw [isP_at h3] at hs
      rw [gapI_at h3]
      cases a with
      | none => exact absurd hs (by simp [bothP])
      | some a =>
        have ls := lless_1 (o := b) (b := a) (hv b (List.mem_of_getElem? h2)) (hw (some a) (List.mem_of_getElem? h1) a rfl)
        have nc : noCel [lessW b a, .int 0] = true := by cases b <;> rfl
        simp [wipeD, q1, q2, callK, noCel_w, ls, gapD, nc]
end LW

set_option Elab.async false
set_option linter.all false
set_option maxRecDepth 100000
namespace LW
open PySem PySem.Spec PyProof.Rows L2 RZ GXS He GH G
def kkey (g : Int × Int) : Ks := [.inl g.1, .inl g.2]
theorem keys_1 : ∀ (prs : List (Wt × Wt)), alike prs = true → pairKs ((prs.filter bothP).map gapD) = some ((gapsOf prs).map kkey)
  | [], h => rfl
  | (none, none) :: r, h => by
    unfold gapsOf
    exact keys_1 r (by simpa [alike] using h)
  | (none, some b) :: r, h => by simp [alike] at h
  | (some a, none) :: r, h => by simp [alike] at h
  | (some a, some b) :: r, h => by
    have ih := keys_1 r (by simpa [alike] using h)
    unfold gapsOf
    rw [List.filter_cons_of_pos (by rfl), List.map_cons, List.map_cons]
    unfold pairKs
    rw [ih]
    rfl
theorem kdOf_key (g : Int × Int) : (D.tup ((kkey g).map kdOf)) = wt (some g) := rfl
end LW

set_option Elab.async false
set_option linter.all false
set_option maxRecDepth 100000
namespace LW
open PySem PySem.Spec PyProof.Rows L2 RZ GXS He GH G
theorem kkey_inj {a b : Int × Int} (h : kkey a = kkey b) : a = b := by
  unfold kkey at h
  obtain ⟨a1, a2⟩ := a
  obtain ⟨b1, b2⟩ := b
  simpa using h
/-- the dict's keys: one if all gaps are alike, else more -/
theorem keys_2 (prs : List (Wt × Wt)) (h : alike prs = true) : (∃ g, shP none prs = some g ∧ addKs [] ((gapsOf prs).map kkey) = [kkey g]) ∨ (shP none prs = none ∧ (addKs [] ((gapsOf prs).map kkey)).length ≠ 1) := by
  rw [shP_none prs h]
  cases hg : gapsOf prs with
  | nil => exact .inr ⟨rfl, by simp [addKs]⟩
  | cons g r =>
    have e0 : addKs [] ((g :: r).map kkey) = addKs [kkey g] (r.map kkey) := rfl
    rw [e0]
    dsimp only
    by_cases z : r.all (fun x => decide (x = g)) = true
    · rw [if_pos z]
      refine .inl ⟨g, rfl, addKs_one _ _ fun x hx => ?_⟩
      obtain ⟨y, hy, rfl⟩ := List.mem_map.mp hx
      have := of_decide_eq_true (List.all_eq_true.mp z y hy)
      rw [this]
    · rw [if_neg z]
      refine .inr ⟨rfl, ?_⟩
      have z' : ∃ x ∈ r, x ≠ g := by
        simpa using z
      obtain ⟨x, hx, hn⟩ := z'
      have := addKs_two (kkey g) (r.map kkey) ⟨kkey x, List.mem_map.mpr ⟨x, hx, rfl⟩, fun q => hn (kkey_inj q)⟩
      omega
end LW

set_option Elab.async false
set_option linter.all false
set_option maxRecDepth 100000
namespace LW
open PySem PySem.Spec PyProof.Rows L2 RZ GXS He GH G
theorem ints_of : ∀ ds : List D, (∀ d ∈ ds, ∃ i : Int, d = .int i) → ∃ l : List Int, ds = l.map .int
  | [], _ => ⟨[], rfl⟩
  | d :: ds, h => by
    obtain ⟨i, rfl⟩ := h d List.mem_cons_self
    obtain ⟨l, rfl⟩ := ints_of ds fun e he => h e (List.mem_cons_of_mem _ he)
    exact ⟨i :: l, rfl⟩
theorem mis_ints (prs : List (Wt × Wt)) (n : Nat) (t : D → Bool) : ∃ l : List Int, ((rangeD 0 n).filter t).map (fun d => d) = l.map .int := by
  refine ints_of _ fun d hd => ?_
  rw [List.map_id'] at hd
  obtain ⟨j, _, h⟩ := range_mem (List.mem_filter.mp hd).1
  exact ⟨_, h⟩
theorem mis_2 {prs : List (Wt × Wt)} {n : Nat} (h : prs.length = n) : (((rangeD 0 n).filter (isP prs fun q => !decide (q.1.isNone = q.2.isNone))).map fun d => d).isEmpty = alike prs := by
  have e := by_pairs (t := isP prs fun q => !decide (q.1.isNone = q.2.isNone)) (g := fun _ => D.non) (t' := fun q => !decide (q.1.isNone = q.2.isNone)) (g' := fun _ => D.non) prs 0 fun j q h => ⟨isP_at h, rfl⟩
  rw [h] at e
  have e2 := congrArg List.isEmpty e
  rw [List.isEmpty_map, List.isEmpty_map] at e2
  rw [List.isEmpty_map, e2]
  unfold alike
  clear e e2 h
  induction prs with
  | nil => rfl
  | cons q r ih =>
    rw [List.filter_cons, List.all_cons]
    by_cases z : q.1.isNone = q.2.isNone
    · simp [z] at ih ⊢
      exact ih
    · simp [z]
end LW

set_option Elab.async false
set_option linter.all false
set_option maxRecDepth 100000
namespace LW
open PySem PySem.Spec PyProof.Rows L2 RZ GXS He GH G
theorem dct_len {l : List D} {n : Int} (h : (l.length : Int) = n) : dLen [.dct l] = some (.int n) := by rw [← h]; rfl
theorem lst_dct1 (d : D) : dLstOf [.dct [d]] = some (.lst [d]) := by
  unfold dLstOf
  exact if_pos (by rw [sizeLine_eq]; simp)
def bS (E1 E2 : M (List D)) : Ss → Fl := (bSeq (bIf none [] (tBl (eBin dNe (eLst E1) (eArgs dLst aNil))) ((bRet none [] (eC .non))) bNext) (bSeq (bAsg none [] [3] (tName 3) (eArgs dDictOf (aCons (eLst E2) aNil))) ((bRet none [] (eIf (tBl (eBin dEq (eArgs dLen (aCons (eVar 3) aNil)) (eC (.int 1)))) (eBin dIx (eArgs dLstOf (aCons (eVar 3) aNil)) (eC (.int 0))) (eC .non))))))
theorem bS_0 {E1 E2 : M (List D)} {R O : D} {L : List D} (h1 : E1 [some R, some O, none, none] none = .ok L none) (h2 : dNe (.lst L) (.lst []) = some (.bl true)) : endO (bS E1 E2 ⟨[some R, some O, none, none], [none, none, none, none]⟩) = .ok .non none := by
  have l0 : dLst [] = some (.lst []) := rfl
  unfold bS
  simp [h1, h2, l0]
theorem bS_1 {E1 E2 : M (List D)} {R O : D} {L L2 : List D} {DD : D} {gi : Int} {d : D} (h1 : E1 [some R, some O, none, none] none = .ok L none) (h2 : dNe (.lst L) (.lst []) = some (.bl false)) (h3 : E2 [some R, some O, none, none] none = .ok L2 none) (h4 : dDictOf [.lst L2] = some DD) (hc : DD.isCel = false)
    (hn : noCel [DD] = true) (h5 : dLen [DD] = some (.int gi)) (h6 : gi = 1 → dLstOf [DD] = some (.lst [d])) (h7 : gi ≠ 1 → d = .non) : endO (bS E1 E2 ⟨[some R, some O, none, none], [none, none, none, none]⟩) = .ok d none := by
  have l0 : dLst [] = some (.lst []) := rfl
  have l1 : dIx (.lst [d]) (.int 0) = some d := rfl
  unfold bS
  by_cases z : gi = 1
  · have h6' := h6 z
    subst z
    simp [h1, h2, h3, h4, h5, h6', l0, l1, hn, Ss.asg, wipeD, dEq_i]
  · have h7' := h7 z
    simp [h1, h2, h3, h4, h5, l0, hn, Ss.asg, wipeD, dEq_i, z, h7']
theorem lshift_1 {ws vs : List Wt} (hw : ∀ o ∈ ws, DnW o) (hv : ∀ o ∈ vs, DnW o) (hl : vs.length = ws.length) (hz : ws.length ≤ 1000) : d__law_shift [.tup (rowD ws), .tup (rowD vs)] none = .ok (wt (shP none (ws.zip vs))) none := by
  refine (fd (b := b__law_shift) (s := ⟨[some (.tup (rowD ws)), some (.tup (rowD vs)), none, none], [none, none, none, none]⟩) rfl rfl).trans ?_
  have hp : (ws.zip vs).length = ws.length := by rw [List.length_zip, hl, Nat.min_self]
  have m1 := mis_1 hl hz none
  have m2 := mis_2 (prs := ws.zip vs) (n := ws.length) hp
  obtain ⟨l, m3⟩ := mis_ints (ws.zip vs) ws.length (isP (ws.zip vs) fun q => !decide (q.1.isNone = q.2.isNone))
  rw [m3] at m1 m2
  obtain ⟨ps, pl⟩ := pls_ints l
  have m4 := dNe_nil pl
  rw [m2] at m4
  have g1 := gaps_1 hw hv hl hz none
  cases ha : alike (ws.zip vs) with
  | false =>
    rw [ha] at m4
    rw [shP_mis _ none ha]
    exact bS_0 m1 m4
  | true =>
    rw [ha] at m4
    have k1 := keys_1 (ws.zip vs) ha
    have dd : dDictOf [.lst (((ws.zip vs).filter bothP).map gapD)] = some (.dct ((addKs [] ((gapsOf (ws.zip vs)).map kkey)).map fun k => .tup (k.map kdOf))) := by
      unfold dDictOf
      dsimp only
      rw [k1]
      rfl
    rcases keys_2 (ws.zip vs) ha with ⟨g, e1, e2⟩ | ⟨e1, e2⟩
    · rw [e2] at dd
      rw [e1]
      exact bS_1 (gi := 1) m1 m4 g1 dd rfl rfl rfl (fun _ => lst_dct1 _) (fun z => absurd rfl z)
    · rw [e1]
      refine bS_1 (gi := (((addKs [] ((gapsOf (ws.zip vs)).map kkey)).map fun k => D.tup (k.map kdOf)).length : Int)) m1 m4 g1 dd rfl rfl rfl (fun z => ?_) (fun _ => rfl)
      rw [List.length_map] at z
      exact absurd (by omega) e2
end LW

set_option Elab.async false
set_option linter.all false
set_option maxRecDepth 100000
namespace LW
open PySem PySem.Spec PyProof.Rows L2 RZ GXS He GH G
/-! ### the loop of the law, statement by statement -/
noncomputable def la1 : Ss → Fl := bPar (some 2) 4 5 (aCons (eCall 2 d__law_whole (aCons (eVar 1) (aCel aNil))) (aCons (eCall 2 d__law_whole (aCons (eVar 1) (aCel aNil))) aNil))
noncomputable def la2 : Ss → Fl := bIf (some 2) [] (tBl (eBin dNe (eArgs dRepr (aCons (eCall 3 d__law_told (aCons (eC (.int 0)) (aCons (eVar 4) (aCons (eVar 5) aNil)))) aNil)) (eArgs dRepr (aCons (eIf (tBl (eBin dEq (eVar 5) (eC (.int 0)))) (eArgs dTup (aCons (eC (.str "argument")) (aCons (eC (.str "other")) aNil))) (eCall 2 d__law_made (aCons (eVar 4) (aCons (eVar 5) aNil)))) aNil)))) ((bRet (some 2) [] (eC (.bl false)))) bNext
noncomputable def la3 : Ss → Fl := bAsg (some 2) [] [6, 7] (tTup 2 (tsCons (tName 6) (tsCons (tName 7) tsNil))) (eArgs dTup (aCons (eCall 2 d__law_any (aCons (eVar 1) (aCel aNil))) (aCons (eCall 2 d__law_any (aCons (eVar 1) (aCel aNil))) aNil)))
noncomputable def la4 : Ss → Fl := bOwn (some 2) [] 8 (aFree (aCons (eCall 1 d__law_most (aCons (eArgs dLst (aCons (eVar 6) (aCons (eVar 7) aNil))) aNil)) (aCons (eCall 2 d__law_plus (aCons (eVar 6) (aCons (eVar 7) aNil))) aNil)))
noncomputable def la5 : Ss → Fl := bApp (some 2) [] 8 (eIf (tBl (eBin dIsN (eVar 7) (eC .non))) (eArgs dTup (aCons (eC (.str "argument")) (aCons (eC (.str "other")) aNil))) (eIf (tBl (eBin dIsN (eVar 6) (eC .non))) (eC .non) (eCall 2 d__law_less (aCons (eVar 6) (aCons (eVar 7) aNil)))))
noncomputable def la6 : Ss → Fl := bFix 8 (bIf (some 2) [] (tBl (eBin dNe (eArgs dRepr (aCons (eLst (eComp [9] (tName 9) (iOf (eArgs dTup (aCons (eC (.int 1)) (aCons (eC (.int 2)) (aCons (eC (.int 3)) (aCons (eC (.int 4)) aNil)))))) mTrue (eCall 3 d__law_told (aCons (eVar 9) (aCons (eVar 6) (aCons (eVar 7) aNil)))))) aNil)) (eArgs dRepr (aCons (eBin dAdd (eVar 8) (eArgs dLst (aCons (eCall 2 d__law_order (aCons (eVar 6) (aCons (eVar 7) aNil))) aNil))) aNil)))) ((bRet (some 2) [] (eC (.bl false)))) bNext)
noncomputable def la7 : Ss → Fl := bAsg (some 2) [] [10] (tName 10) (eCall 3 d__law_one (aCons (eArgs dLst (aCons (eC (.int 0)) (aCons (eC (.int 1)) (aCons (eUn dNeg (eC (.int 1))) (aCons (eC (.int 7)) (aCons (eUn dNeg (eC (.int 30))) (aCons (eC (.int 1000000)) aNil))))))) (aCons (eVar 1) (aCel aNil))))
noncomputable def la8 : Ss → Fl := bAsg (some 2) [] [8] (tName 8) (eIf (tBl (eBin dIsN (eVar 6) (eC .non))) (eIf (tBl (eBin dLt (eVar 10) (eC (.int 0)))) (eArgs dTup (aCons (eC (.str "argument")) (aCons (eC (.str "count")) aNil))) (eIf (tBl (eBin dEq (eVar 10) (eC (.int 0)))) (eArgs dTup (aCons (eC (.int 0)) (aCons (eC (.int 1)) aNil))) (eC .non))) (eCall 3 d__law_scaled (aCons (eVar 6) (aCons (eVar 10) (aCons (eC (.int 1)) aNil)))))
noncomputable def la9 : Ss → Fl := bIf (some 2) [] (tBl (eBin dNe (eArgs dRepr (aCons (eCall 3 d__law_told (aCons (eC (.int 5)) (aCons (eVar 6) (aCons (eVar 10) aNil)))) aNil)) (eArgs dRepr (aCons (eVar 8) aNil)))) ((bRet (some 2) [] (eC (.bl false)))) bNext
noncomputable def la10 : Ss → Fl := bAsg (some 2) [] [10] (tName 10) (eCall 3 d__law_one (aCons (eArgs dLst (aCons (eC (.int 1)) (aCons (eC (.int 2)) (aCons (eC (.int 9)) (aCons (eC (.int 1000000)) aNil))))) (aCons (eVar 1) (aCel aNil))))
noncomputable def la11 : Ss → Fl := bIf (some 2) [] (tBl (eBin dNe (eArgs dRepr (aCons (eCall 3 d__law_told (aCons (eC (.int 6)) (aCons (eVar 6) (aCons (eVar 10) aNil)))) aNil)) (eArgs dRepr (aCons (eIf (tBl (eBin dIsN (eVar 6) (eC .non))) (eC .non) (eCall 3 d__law_scaled (aCons (eVar 6) (aCons (eC (.int 1)) (aCons (eVar 10) aNil))))) aNil)))) ((bRet (some 2) [] (eC (.bl false)))) bNext
noncomputable def la12 : Ss → Fl := bAsg (some 2) [] [11] (tName 11) (eArgs dTupOf (aCons (eLst (eComp [12] (tName 12) (iArgs dRange1 (aCons (eBin dAdd (eC (.int 1)) (eCall 3 d__law_take (aCons (eVar 1) (aCel (aCons (eC (.int 5)) aNil))))) aNil)) mTrue (eCall 2 d__law_weight (aCons (eVar 1) (aCel aNil))))) aNil))
noncomputable def la13 : Ss → Fl := bAsg (some 2) [] [13] (tName 13) (eCall 2 d__law_made (aCons (eBin dSub (eCall 3 d__law_take (aCons (eVar 1) (aCel (aCons (eC (.int 13)) aNil)))) (eC (.int 6))) (aCons (eC (.int 2)) aNil)))
noncomputable def la14 : Ss → Fl := bAsg (some 2) [] [14] (tName 14) (eArgs dTupOf (aCons (eLst (eComp [15] (tName 15) (iOf (eVar 11)) mTrue (eCall 2 d__law_plus (aCons (eVar 15) (aCons (eVar 13) aNil))))) aNil))
noncomputable def la15 : Ss → Fl := bAsg (some 2) [] [12] (tName 12) (eCall 3 d__law_take (aCons (eVar 1) (aCel (aCons (eArgs dLen (aCons (eVar 11) aNil)) aNil))))
noncomputable def la16 : Ss → Fl := bAsg (some 2) [] [16] (tName 16) (eCall 3 d__law_one (aCons (eArgs dLst (aCons (eVar 14) (aCons (eVar 14) (aCons (eBin dAdd (eBin dAdd (eSl (eVar 14) pNone (pSome (eVar 12))) (eArgs dTup (aCons (eCall 2 d__law_weight (aCons (eVar 1) (aCel aNil))) aNil))) (eSl (eVar 14) (pSome (eBin dAdd (eVar 12) (eC (.int 1)))) pNone)) aNil)))) (aCons (eVar 1) (aCel aNil))))
noncomputable def la17 : Ss → Fl := bAsg (some 2) [] [8] (tName 8) (eIf (tBl (eBin dEq (eLst (eComp [15] (tName 15) (iOf (eVar 11)) (tBl (eBin dNotN (eVar 15) (eC .non))) (eVar 15))) (eArgs dLst aNil))) (eArgs dTup (aCons (eC (.str "argument")) (aCons (eC (.str "row")) aNil))) (eCall 2 d__law_shift (aCons (eVar 11) (aCons (eVar 16) aNil))))
noncomputable def la18 : Ss → Fl := bIf (some 2) [] (tBl (eBin dNe (eArgs dRepr (aCons (eCall 3 d__law_told (aCons (eC (.int 7)) (aCons (eVar 11) (aCons (eVar 16) aNil)))) aNil)) (eArgs dRepr (aCons (eVar 8) aNil)))) ((bRet (some 2) [] (eC (.bl false)))) bNext
theorem la_split : l1_law = bSeq la1 (bSeq la2 (bSeq la3 (bSeq la4 (bSeq la5 (bSeq la6 (bSeq la7 (bSeq la8 (bSeq la9 (bSeq la10 (bSeq la11 (bSeq la12 (bSeq la13 (bSeq la14 (bSeq la15 (bSeq la16 (bSeq la17 (la18))))))))))))))))) := rfl

def Ls (ns xs : List Int) (p : Int) (x3 x4 x5 x6 x7 x8 x9 x10 x11 x12 x13 x14 x15 x16 x17 x18 x19 x20 : Option D) : Ss := ⟨[some (scriptD ns), some (.lst (xs.map .int)), none, x3, x4, x5, x6, x7, x8, x9, x10, x11, x12, x13, x14, x15, x16, x17, x18, x19, x20], [none, none, some (.lst [.int p]), none, none, none, none, none, none, none, none, none, none, none, none, none, none, none, none, none, none]⟩
section
variable {ns xs : List Int} {p : Int} {x3 x4 x5 x6 x7 x8 x9 x10 x11 x12 x13 x14 x15 x16 x17 x18 x19 x20 : Option D}
theorem la1_1 (hx : ∀ x ∈ xs, 0 ≤ x) (hp : 0 ≤ p) : ∃ a b p' : Int, a.natAbs ≤ 1000000 ∧ b.natAbs ≤ 1000000 ∧ 0 ≤ p' ∧ la1 (Ls ns xs p x3 x4 x5 x6 x7 x8 x9 x10 x11 x12 x13 x14 x15 x16 x17 x18 x19 x20) = .nx (Ls ns xs p' x3 (some (.int a)) (some (.int b)) x6 x7 x8 x9 x10 x11 x12 x13 x14 x15 x16 x17 x18 x19 x20) := by
  obtain ⟨a, p1, ha, hp1, w1⟩ := whole_1 xs p hp hx
  obtain ⟨b, p2, hb, hp2, w2⟩ := whole_1 xs p1 hp1 hx
  refine ⟨a, b, p2, ha, hb, hp2, ?_⟩
  unfold la1 Ls
  simp [callK, w1, w2, Ss.put, Ss.cell, Ss.asg, wipeD]
theorem la2_1 {a b : Int} (ha : a.natAbs ≤ 1000000) (hb : b.natAbs ≤ 1000000) : la2 (Ls ns xs p x3 (some (.int a)) (some (.int b)) x6 x7 x8 x9 x10 x11 x12 x13 x14 x15 x16 x17 x18 x19 x20) = .nx (Ls ns xs p x3 (some (.int a)) (some (.int b)) x6 x7 x8 x9 x10 x11 x12 x13 x14 x15 x16 x17 x18 x19 x20) := by
  unfold la2
  by_cases z : b = 0
  · subst z
    have t := told_2 (c := 0) (x := .int a) (y := .int 0) rfl rfl rfl rfl (weight_0 (n := a) ⟨by omega, by omega⟩)
    refine chk (d := .tup [.str "argument", .str "other"]) (κ := some [.int p]) (κ' := some [.int p]) ?_ ?_ (shw_arg.1.repr (by decide) (by decide)) rfl ?_
    · unfold Ls; simp [callK, t, Ss.put, Ss.cell]
    · unfold Ls; simp [callK, Ss.put, Ss.cell, dEq_i]
    · unfold Ls; simp [Ss.put]
  · have t := told_1 (c := 0) (x := .int a) (y := .int b) rfl rfl rfl rfl (weight_1 (n := a) (d := b) ⟨by omega, by omega⟩ ⟨by omega, by omega⟩ z)
    have lm := lmade_1 a b z (by omega) (by omega)
    refine chk (d := mk a b) (κ := some [.int p]) (κ' := some [.int p]) ?_ ?_ ((shw_mk (n := a) (d := b) (by omega) (by omega)).repr (by decide) (by decide)) rfl ?_
    · unfold Ls; simp [callK, t, Ss.put, Ss.cell]
    · unfold Ls; simp [callK, Ss.put, Ss.cell, dEq_i, z, lm]
    · unfold Ls; simp [Ss.put]
theorem la3_1 (hx : ∀ x ∈ xs, 0 ≤ x) (hp : 0 ≤ p) : ∃ (a b : Wt) (p' : Int), BdW 1000000 1000000 a ∧ BdW 1000000 1000000 b ∧ 0 ≤ p' ∧ la3 (Ls ns xs p x3 x4 x5 x6 x7 x8 x9 x10 x11 x12 x13 x14 x15 x16 x17 x18 x19 x20) = .nx (Ls ns xs p' x3 x4 x5 (some (wt a)) (some (wt b)) x8 x9 x10 x11 x12 x13 x14 x15 x16 x17 x18 x19 x20) := by
  obtain ⟨a, p1, ha, hp1, w1⟩ := any_1 xs p hp hx
  obtain ⟨b, p2, hb, hp2, w2⟩ := any_1 xs p1 hp1 hx
  refine ⟨a, b, p2, ha, hb, hp2, ?_⟩
  unfold la3 Ls
  simp [callK, w1, w2, Ss.put, Ss.cell, Ss.asg, wipeD, noCel_w, G.tTup, tsCons, tsNil]
def Lo (ns xs : List Int) (p : Int) (ds : List D) (x3 x4 x5 x6 x7 x8 x9 x10 x11 x12 x13 x14 x15 x16 x17 x18 x19 x20 : Option D) : Ss := ⟨[some (scriptD ns), some (.lst (xs.map .int)), none, x3, x4, x5, x6, x7, x8, x9, x10, x11, x12, x13, x14, x15, x16, x17, x18, x19, x20], [none, none, some (.lst [.int p]), none, none, none, none, none, some (.lst ds), none, none, none, none, none, none, none, none, none, none, none, none]⟩
def gr (a b : Wt) : D := if 0 ≤ ordW a b then wt a else wt b
theorem gr_cel {a b : Wt} {r : List D} : noCel (gr a b :: r) = noCel r := by unfold gr; split <;> exact noCel_w
theorem plW_cel {a b : Wt} {r : List D} : noCel (plW a b :: r) = noCel r := by cases a <;> cases b <;> rfl
def ov (a b : Wt) : D := match b with | none => .tup [.str "argument", .str "other"] | some q => lessW a q
theorem la4_1 {a b : Wt} (ha : DnW a) (hb : DnW b) : la4 (Ls ns xs p x3 x4 x5 (some (wt a)) (some (wt b)) x8 x9 x10 x11 x12 x13 x14 x15 x16 x17 x18 x19 x20) = .nx (Lo ns xs p [gr a b, plW a b] x3 x4 x5 (some (wt a)) (some (wt b)) none x9 x10 x11 x12 x13 x14 x15 x16 x17 x18 x19 x20) := by
  have m := most_1 ha hb
  have q := lplus_1 ha hb
  have sz : (2 : Nat) ≤ sizeLine := by rw [sizeLine_eq]; decide
  have f1 : (gr a b).free = true := by unfold gr; cases a <;> cases b <;> (try split) <;> rfl
  have f2 : (plW a b).free = true := by cases a <;> cases b <;> rfl
  rw [show (if 0 ≤ ordW a b then wt a else wt b) = gr a b from rfl] at m
  unfold la4 Ls Lo
  simp [callK, m, q, Ss.put, Ss.cell, noCel_w, gr_cel, plW_cel, dLst, sz, csOk, noOwn, Ss.own]
theorem la5_1 {a b : Wt} {ds : List D} (hl : ds.length < 1000) (ha : DnW a) (hb : DnW b) : la5 (Lo ns xs p ds x3 x4 x5 (some (wt a)) (some (wt b)) x8 x9 x10 x11 x12 x13 x14 x15 x16 x17 x18 x19 x20) = .nx (Lo ns xs p (ds ++ [ov a b]) x3 x4 x5 (some (wt a)) (some (wt b)) x8 x9 x10 x11 x12 x13 x14 x15 x16 x17 x18 x19 x20) := by
  have sz : ds.length < sizeLine := by rw [sizeLine_eq]; omega
  unfold la5 Lo
  cases b with
  | none => simp [Ss.put, Ss.cell, dIsN, Ss.lst, ov, Ss.wr, sz]
  | some q =>
    cases a with
    | none => simp [Ss.put, Ss.cell, dIsN, Ss.lst, ov, Ss.wr, sz, lessW, plW]
    | some r =>
      have l := lless_1 (o := some r) (b := q) ha (hb q rfl)
      simp [Ss.put, Ss.cell, dIsN, Ss.lst, ov, Ss.wr, sz, callK, l, noCel_w]
end
end LW

set_option Elab.async false
set_option linter.all false
set_option maxRecDepth 100000
namespace LW
open PySem PySem.Spec PyProof.Rows L2 RZ GXS He GH G
section
variable {ns xs : List Int} {p : Int} {x3 x4 x5 x6 x7 x8 x9 x10 x11 x12 x13 x14 x15 x16 x17 x18 x19 x20 : Option D}
theorem pl_shw {a b : Int × Int} (h : Bd 1000000 1000000 a) (k : Bd 1000000 1000000 b) : Shw (pl a b) 2 70 := by
  unfold pl
  have h1 := h.n
  have h2 := h.d
  have k1 := k.n
  have k2 := k.d
  have m1 : (a.1 * b.2).natAbs ≤ 1000000 * 1000000 := by rw [Int.natAbs_mul]; exact Nat.mul_le_mul h1 k2
  have m2 : (b.1 * a.2).natAbs ≤ 1000000 * 1000000 := by rw [Int.natAbs_mul]; exact Nat.mul_le_mul k1 h2
  have m3 : (a.2 * b.2).natAbs ≤ 1000000 * 1000000 := by rw [Int.natAbs_mul]; exact Nat.mul_le_mul h2 k2
  have s := Int.natAbs_add_le (a.1 * b.2) (b.1 * a.2)
  have e : (2000000000000 : Nat) < 10 ^ 30 := by decide
  exact shw_mk (by omega) (by omega)
theorem plW_shw {a b : Wt} (h : BdW 1000000 1000000 a) (k : BdW 1000000 1000000 b) : Shw (plW a b) 2 70 := by
  cases a with
  | none => exact shw_non.mono (by omega) (by omega)
  | some a =>
    cases b with
    | none => exact shw_non.mono (by omega) (by omega)
    | some b => exact pl_shw (h _ rfl) (k _ rfl)
theorem bd_neg {m n : Nat} {a : Int × Int} (h : Bd m n a) : Bd m n (neg1 a) := by
  have h1 := h.n
  have h4 := h.g
  refine ⟨?_, h.p, h.d, ?_⟩
  · show (0 - a.1).natAbs ≤ m
    omega
  · show Int.gcd (0 - a.1) a.2 = 1
    rw [Int.zero_sub, Int.neg_gcd]
    exact h4
theorem ov_shw {a b : Wt} (h : BdW 1000000 1000000 a) (k : BdW 1000000 1000000 b) : Shw (ov a b) 2 70 := by
  cases b with
  | none => exact shw_arg.1
  | some b => exact plW_shw h fun q e => by cases e; exact bd_neg (k b rfl)
theorem gr_shw {a b : Wt} (h : BdW 1000000 1000000 a) (k : BdW 1000000 1000000 b) : Shw (gr a b) 2 70 := by
  unfold gr
  split
  · exact shw_wt h (by omega) (by omega)
  · exact shw_wt k (by omega) (by omega)
theorem ord_b (a b : Wt) : (ordW a b).natAbs < 10 ^ 30 := by
  have e : (2 : Nat) < 10 ^ 30 := by decide
  unfold ordW
  cases a <;> cases b <;> simp only [] <;> (try split) <;> (try split) <;> omega
theorem ov_cel {a b : Wt} {r : List D} : noCel (ov a b :: r) = noCel r := by
  cases b with
  | none => rfl
  | some q => exact plW_cel
def g6 (a b : Wt) : D → D := fun d => match d with
  | .int i => if i = 1 then gr a b else if i = 2 then plW a b else if i = 3 then ov a b else .int (ordW a b)
  | _ => .non
theorem told_w {a b : Wt} (ha : SmW a) (hb : SmW b) : ∀ d ∈ [D.int 1, D.int 2, D.int 3, D.int 4], noCel [d] = true ∧ d__law_told [d, wt a, wt b] none = .ok (g6 a b d) none := by
  have t3 : d__law_told [.int 3, wt a, wt b] none = .ok (ov a b) none := by
    cases b with
    | none => exact told_2 isCel_w isCel_w rfl rfl (over_0 ha)
    | some q => exact told_1 isCel_w isCel_w rfl rfl (over_1 (b := q) ha (hb q rfl))
  intro d hd
  simp only [List.mem_cons, List.not_mem_nil, or_false] at hd
  rcases hd with rfl | rfl | rfl | rfl
  · exact ⟨rfl, told_1 isCel_w isCel_w rfl rfl (plus_1 ha hb)⟩
  · exact ⟨rfl, told_1 isCel_w isCel_w rfl rfl (times_1 ha hb)⟩
  · exact ⟨rfl, t3⟩
  · exact ⟨rfl, told_1 isCel_w isCel_w rfl rfl (compare_1 ha hb)⟩
theorem la6_1 {a b : Wt} (ha : BdW 1000000 1000000 a) (hb : BdW 1000000 1000000 b) : la6 (Lo ns xs p [gr a b, plW a b, ov a b] x3 x4 x5 (some (wt a)) (some (wt b)) x8 x9 x10 x11 x12 x13 x14 x15 x16 x17 x18 x19 x20) = .nx (Ls ns xs p x3 x4 x5 (some (wt a)) (some (wt b)) (some (.lst [gr a b, plW a b, ov a b])) x9 x10 x11 x12 x13 x14 x15 x16 x17 x18 x19 x20) := by
  have sa := ha.sm (by omega) (by omega)
  have sb := hb.sm (by omega) (by omega)
  have tw := told_w sa sb
  have lo := lorder_1 sa.dn sb.dn
  have sz4 : (4 : Nat) ≤ sizeLine := by rw [sizeLine_eq]; decide
  have sz1 : (1 : Nat) ≤ sizeLine := by rw [sizeLine_eq]; decide
  have fx : ((Lo ns xs p [gr a b, plW a b, ov a b] x3 x4 x5 (some (wt a)) (some (wt b)) x8 x9 x10 x11 x12 x13 x14 x15 x16 x17 x18 x19 x20)).fix 8 = (Ls ns xs p x3 x4 x5 (some (wt a)) (some (wt b)) (some (.lst [gr a b, plW a b, ov a b])) x9 x10 x11 x12 x13 x14 x15 x16 x17 x18 x19 x20) := rfl
  unfold la6
  rw [bFix_d, fx]
  refine chk (d := .lst [gr a b, plW a b, ov a b, .int (ordW a b)]) (κ := some [.int p]) (κ' := some [.int p]) ?_ ?_ ((shw_list4 (k := 2) (n := 70) (gr_shw ha hb) (plW_shw ha hb) (ov_shw ha hb) ((shw_int (ord_b a b)).mono (by omega) (by omega))).repr (by decide) (by decide)) rfl ?_
  · have cp : eComp [9] (tName 9) (iOf (eArgs dTup (aCons (eC (.int 1)) (aCons (eC (.int 2)) (aCons (eC (.int 3)) (aCons (eC (.int 4)) aNil)))))) mTrue (eCall 3 d__law_told (aCons (eVar 9) (aCons (eVar 6) (aCons (eVar 7) aNil)))) (Ls ns xs p x3 x4 x5 (some (wt a)) (some (wt b)) (some (.lst [gr a b, plW a b, ov a b])) x9 x10 x11 x12 x13 x14 x15 x16 x17 x18 x19 x20).ρ (some [.int p]) = .ok ([D.int 1, D.int 2, D.int 3, D.int 4].map (g6 a b)) (some [.int p]) := by
      refine comp_ok (g6 a b) ?_ sz4 fun d hd => ⟨_, rfl, ?_⟩
      · simp [dTup, sz4]
      · obtain ⟨n1, n2⟩ := tw d hd
        have n3 : noCel [d, wt a, wt b] = true := by
          simp only [List.mem_cons, List.not_mem_nil, or_false] at hd
          rcases hd with rfl | rfl | rfl | rfl <;> simp [noCel_w]
        unfold Ls
        simp [wipeD, callK, n2, n3]
    have g : [D.int 1, D.int 2, D.int 3, D.int 4].map (g6 a b) = [gr a b, plW a b, ov a b, .int (ordW a b)] := rfl
    rw [g] at cp
    have ce : ((Ls ns xs p x3 x4 x5 (some (wt a)) (some (wt b)) (some (.lst [gr a b, plW a b, ov a b])) x9 x10 x11 x12 x13 x14 x15 x16 x17 x18 x19 x20)).cell (some 2) [] = some [.int p] := rfl
    rw [ce]
    show (eLst _ (Ls ns xs p x3 x4 x5 (some (wt a)) (some (wt b)) (some (.lst [gr a b, plW a b, ov a b])) x9 x10 x11 x12 x13 x14 x15 x16 x17 x18 x19 x20).ρ (some [.int p]) = _)
    rw [eLst_d, cp]
    rfl
  · unfold Ls
    simp [callK, lo, noCel_w, dLst, sz1, dAdd, sz4]
  · rfl
theorem la7_1 (hx : ∀ x ∈ xs, 0 ≤ x) (hp : 0 ≤ p) : ∃ c : Int, (-1000000 ≤ c ∧ c ≤ 1000000) ∧ la7 (Ls ns xs p x3 x4 x5 x6 x7 x8 x9 x10 x11 x12 x13 x14 x15 x16 x17 x18 x19 x20) = .nx (Ls ns xs (p + 1) x3 x4 x5 x6 x7 x8 x9 (some (.int c)) x11 x12 x13 x14 x15 x16 x17 x18 x19 x20) := by
  obtain ⟨r, hr, o1⟩ := one_1 [.int 0, .int 1, .int (-1), .int 7, .int (-30), .int 1000000] xs p (by simp) hp hx
  have hc : ∃ c : Int, (-1000000 ≤ c ∧ c ≤ 1000000) ∧ r = .int c := by
    simp only [List.mem_cons, List.not_mem_nil, or_false] at hr
    rcases hr with q | q | q | q | q | q <;> exact ⟨_, ⟨by decide, by decide⟩, q⟩
  obtain ⟨c, h1, rfl⟩ := hc
  have sz : (6 : Nat) ≤ sizeLine := by rw [sizeLine_eq]; decide
  refine ⟨c, h1, ?_⟩
  unfold la7 Ls
  simp [callK, o1, dLst, sz, Ss.put, Ss.cell, Ss.asg, wipeD]
def rs (a : Wt) (c : Int) : D := match a with | none => if c < 0 then .tup [.str "argument", .str "count"] else if c = 0 then .tup [.int 0, .int 1] else .non | some q => mk (q.1 * c) (q.2 * 1)
theorem la8_1 {a : Wt} {c : Int} (ha : DnW a) (hc : -1000000 ≤ c ∧ c ≤ 1000000) : la8 (Ls ns xs p x3 x4 x5 (some (wt a)) x7 x8 x9 (some (.int c)) x11 x12 x13 x14 x15 x16 x17 x18 x19 x20) = .nx (Ls ns xs p x3 x4 x5 (some (wt a)) x7 (some (rs a c)) x9 (some (.int c)) x11 x12 x13 x14 x15 x16 x17 x18 x19 x20) := by
  unfold la8 Ls
  cases a with
  | none =>
    unfold rs
    by_cases z : c < 0
    · simp [z, Ss.put, Ss.cell, Ss.asg, wipeD, dIsN]
    · by_cases z2 : c = 0
      · subst z2; simp [Ss.put, Ss.cell, Ss.asg, wipeD, dIsN, dEq_i]
      · simp [z, z2, Ss.put, Ss.cell, Ss.asg, wipeD, dIsN, dEq_i]
  | some q =>
    have l := lscaled_1 q (x := c) (y := 1) (ha q rfl) hc ⟨by decide, by decide⟩
    simp [callK, noCel_w, l, Ss.put, Ss.cell, Ss.asg, wipeD, dIsN, rs]
theorem mul_shw {a : Int × Int} {x y : Int} (h : Bd 1000000 1000000 a) (hx : x.natAbs ≤ 1000000) (hy : y.natAbs ≤ 1000000) : Shw (mk (a.1 * x) (a.2 * y)) 2 70 := by
  have m1 : (a.1 * x).natAbs ≤ 1000000 * 1000000 := by rw [Int.natAbs_mul]; exact Nat.mul_le_mul h.n hx
  have m2 : (a.2 * y).natAbs ≤ 1000000 * 1000000 := by rw [Int.natAbs_mul]; exact Nat.mul_le_mul h.d hy
  have e : (2000000000000 : Nat) < 10 ^ 30 := by decide
  exact shw_mk (by omega) (by omega)
theorem rs_shw {a : Wt} {c : Int} (h : BdW 1000000 1000000 a) (hc : -1000000 ≤ c ∧ c ≤ 1000000) : Shw (rs a c) 2 70 := by
  unfold rs
  cases a with
  | none =>
    dsimp only
    split
    · exact shw_arg.2.1
    · split
      · exact (shw_tup2 (shw_int (i := 0) (by decide)) (shw_int (i := 1) (by decide))).mono (by omega) (by omega)
      · exact shw_non.mono (by omega) (by omega)
  | some q => exact mul_shw (h q rfl) (by omega) (by decide)
theorem rs_cel {a : Wt} {c : Int} {r : List D} : noCel (rs a c :: r) = noCel r := by
  unfold rs
  cases a with
  | none => dsimp only; split <;> (try split) <;> rfl
  | some q => rfl
theorem la9_1 {a : Wt} {c : Int} (ha : BdW 1000000 1000000 a) (hc : -1000000 ≤ c ∧ c ≤ 1000000) : la9 (Ls ns xs p x3 x4 x5 (some (wt a)) x7 (some (rs a c)) x9 (some (.int c)) x11 x12 x13 x14 x15 x16 x17 x18 x19 x20) = .nx (Ls ns xs p x3 x4 x5 (some (wt a)) x7 (some (rs a c)) x9 (some (.int c)) x11 x12 x13 x14 x15 x16 x17 x18 x19 x20) := by
  have sa := ha.sm (by omega) (by omega)
  have t : d__law_told [.int 5, wt a, .int c] none = .ok (rs a c) none := by
    have r := raised_1 (c := c) sa hc
    cases a with
    | none =>
      unfold rs
      dsimp only at r ⊢
      by_cases z : c < 0
      · rw [if_pos z] at r ⊢; exact told_2 isCel_w rfl rfl rfl r
      · rw [if_neg z] at r ⊢; exact told_1 isCel_w rfl rfl rfl r
    | some q => exact told_1 isCel_w rfl rfl rfl r
  unfold la9
  refine chk (d := rs a c) (κ := some [.int p]) (κ' := some [.int p]) ?_ ?_ ((rs_shw ha hc).repr (by decide) (by decide)) (rs_cel) ?_
  · unfold Ls; simp [callK, t, Ss.put, Ss.cell, noCel_w]
  · unfold Ls; simp
  · unfold Ls; simp [Ss.put]
theorem la10_1 (hx : ∀ x ∈ xs, 0 ≤ x) (hp : 0 ≤ p) : ∃ c : Int, Dn c ∧ la10 (Ls ns xs p x3 x4 x5 x6 x7 x8 x9 x10 x11 x12 x13 x14 x15 x16 x17 x18 x19 x20) = .nx (Ls ns xs (p + 1) x3 x4 x5 x6 x7 x8 x9 (some (.int c)) x11 x12 x13 x14 x15 x16 x17 x18 x19 x20) := by
  obtain ⟨r, hr, o1⟩ := one_1 [.int 1, .int 2, .int 9, .int 1000000] xs p (by simp) hp hx
  have hc : ∃ c : Int, Dn c ∧ r = .int c := by
    simp only [List.mem_cons, List.not_mem_nil, or_false] at hr
    rcases hr with q | q | q | q <;> exact ⟨_, ⟨by decide, by decide⟩, q⟩
  obtain ⟨c, h1, rfl⟩ := hc
  have sz : (4 : Nat) ≤ sizeLine := by rw [sizeLine_eq]; decide
  refine ⟨c, h1, ?_⟩
  unfold la10 Ls
  simp [callK, o1, dLst, sz, Ss.put, Ss.cell, Ss.asg, wipeD]
theorem la11_1 {a : Wt} {c : Int} (ha : BdW 1000000 1000000 a) (hc : Dn c) : la11 (Ls ns xs p x3 x4 x5 (some (wt a)) x7 x8 x9 (some (.int c)) x11 x12 x13 x14 x15 x16 x17 x18 x19 x20) = .nx (Ls ns xs p x3 x4 x5 (some (wt a)) x7 x8 x9 (some (.int c)) x11 x12 x13 x14 x15 x16 x17 x18 x19 x20) := by
  have sa := ha.sm (by omega) (by omega)
  have r := root_1 (c := c) sa hc
  have c1 := hc.1
  have c2 := hc.2
  unfold la11
  cases a with
  | none =>
    have t := told_1 (c := 6) isCel_w rfl rfl rfl r
    dsimp only at t
    refine chk (d := .non) (κ := some [.int p]) (κ' := some [.int p]) ?_ ?_ (shw_non.repr (by decide) (by decide)) rfl ?_
    · unfold Ls; simp [callK, t, Ss.put, Ss.cell, noCel_w]
    · unfold Ls; simp [dIsN]
    · unfold Ls; simp [Ss.put]
  | some q =>
    have t := told_1 (c := 6) isCel_w rfl rfl rfl r
    have l := lscaled_1 q (x := 1) (y := c) (sa.dn q rfl) (by decide) hc
    dsimp only at t
    refine chk (d := mk (q.1 * 1) (q.2 * c)) (κ := some [.int p]) (κ' := some [.int p]) ?_ ?_ ((mul_shw (ha q rfl) (by decide) (by omega)).repr (by decide) (by decide)) rfl ?_
    · unfold Ls; simp only [eCall_d, aCons_d, eC_d, eVar_d, aNil_d]; simp [callK, Ss.cell, noCel_w, t]
    · unfold Ls; simp [dIsN, callK, l, noCel_w]
    · unfold Ls; simp [Ss.put]
end
end LW

set_option Elab.async false
set_option linter.all false
set_option maxRecDepth 100000
namespace LW
open PySem PySem.Spec PyProof.Rows L2 RZ GXS He GH G
section
variable {ns xs : List Int} {p : Int} {x3 x4 x5 x6 x7 x8 x9 x10 x11 x12 x13 x14 x15 x16 x17 x18 x19 x20 : Option D}
theorem rowD_len {ws : List Wt} : (rowD ws).length = ws.length := by unfold rowD; simp
theorem la12_1 (hx : ∀ x ∈ xs, 0 ≤ x) (hp : 0 ≤ p) : ∃ (ws : List Wt) (p' : Int), 0 ≤ p' ∧ 1 ≤ ws.length ∧ ws.length ≤ 5 ∧ (∀ o ∈ ws, BdW 6 3 o) ∧ la12 (Ls ns xs p x3 x4 x5 x6 x7 x8 x9 x10 x11 x12 x13 x14 x15 x16 x17 x18 x19 x20) = .nx (Ls ns xs p' x3 x4 x5 x6 x7 x8 x9 x10 (some (.tup (rowD ws))) x12 x13 x14 x15 x16 x17 x18 x19 x20) := by
  obtain ⟨t, t1, t2, tk⟩ := take_1 xs p 5 (by omega) hp hx
  have dr : dRange1 [.int (1 + t)] = some (rangeD 0 (1 + t).toNat) := dRange_i (by omega)
  obtain ⟨ys, κ', e1, ⟨p', hp', rfl⟩, e3, e4⟩ := comp_cel (vs := [12]) (tg := tName 12) (fs := iArgs dRange1 (aCons (eBin dAdd (eC (.int 1)) (eCall 3 d__law_take (aCons (eVar 1) (aCel (aCons (eC (.int 5)) aNil))))) aNil)) (fe := eCall 2 d__law_weight (aCons (eVar 1) (aCel aNil))) (ρ := (Ls ns xs p x3 x4 x5 x6 x7 x8 x9 x10 x11 x12 x13 x14 x15 x16 x17 x18 x19 x20).ρ) (κ := some [.int p]) (κ0 := some [.int (p + 1)]) (xs := rangeD 0 (1 + t).toNat)
    (fun κ => ∃ p' : Int, 0 ≤ p' ∧ κ = some [.int p']) (fun y => ∃ o, y = wt o ∧ BdW 6 3 o) (by unfold Ls; simp [callK, tk, dr]) ⟨_, by omega, rfl⟩ (by rw [rangeD_len, sizeLine_eq]; omega) (by
      rintro d hd κ ⟨p', hp', rfl⟩
      obtain ⟨o, p2, h1, h2, h3⟩ := lweight_1 xs p' hp' hx
      refine ⟨_, wt o, _, rfl, ?_, ⟨o, rfl, h1⟩, p2, h2, rfl⟩
      unfold Ls
      simp [wipeD, callK, h3])
  obtain ⟨ws, rfl, hw⟩ := row_of ys e4
  rw [rangeD_len, rowD_len] at e3
  refine ⟨ws, p', hp', by omega, by omega, hw, ?_⟩
  unfold la12
  unfold Ls at e1 ⊢
  simp only [bAsg_d, eR_nil, eArgs_d, aCons_d, eLst_d, Ss.cell]
  simp [e1, dTupOf, Ss.put, Ss.asg, wipeD]
theorem la13_1 (hx : ∀ x ∈ xs, 0 ≤ x) (hp : 0 ≤ p) : ∃ q : Int × Int, Bd 6 2 q ∧ la13 (Ls ns xs p x3 x4 x5 x6 x7 x8 x9 x10 x11 x12 x13 x14 x15 x16 x17 x18 x19 x20) = .nx (Ls ns xs (p + 1) x3 x4 x5 x6 x7 x8 x9 x10 x11 x12 (some (wt (some q))) x14 x15 x16 x17 x18 x19 x20) := by
  obtain ⟨t, t1, t2, tk⟩ := take_1 xs p 13 (by omega) hp hx
  obtain ⟨q, q1, q2⟩ := mk_bd (n := t - 6) (d := 2) (by decide) (a := 6) (b := 2) (by omega) (by omega)
  have lm := lmade_1 (t - 6) 2 (by omega) (by omega) (by omega)
  rw [q1] at lm
  refine ⟨q, q2, ?_⟩
  have f : (wt (some q)).free = true := rfl
  unfold la13 Ls
  simp [callK, tk, lm, Ss.put, Ss.cell, Ss.asg, wipeD]
theorem la14_1 {ws : List Wt} {q : Int × Int} (hl : ws.length ≤ 5) (hw : ∀ o ∈ ws, BdW 6 3 o) (hq : Bd 6 2 q) : ∃ vs : List Wt, vs.length = ws.length ∧ (∀ o ∈ vs, BdW 30 6 o) ∧ la14 (Ls ns xs p x3 x4 x5 x6 x7 x8 x9 x10 (some (.tup (rowD ws))) x12 (some (wt (some q))) x14 x15 x16 x17 x18 x19 x20) = .nx (Ls ns xs p x3 x4 x5 x6 x7 x8 x9 x10 (some (.tup (rowD ws))) x12 (some (wt (some q))) (some (.tup (rowD vs))) x15 x16 x17 x18 x19 x20) := by
  obtain ⟨ys, κ', e1, rfl, e3, e4⟩ := comp_cel (vs := [15]) (tg := tName 15) (fs := iOf (eVar 11)) (fe := eCall 2 d__law_plus (aCons (eVar 15) (aCons (eVar 13) aNil))) (ρ := (Ls ns xs p x3 x4 x5 x6 x7 x8 x9 x10 (some (.tup (rowD ws))) x12 (some (wt (some q))) x14 x15 x16 x17 x18 x19 x20).ρ) (κ := some [.int p]) (κ0 := some [.int p]) (xs := rowD ws)
    (fun κ => κ = some [.int p]) (fun y => ∃ o, y = wt o ∧ BdW 30 6 o) (by unfold Ls; simp) rfl (by rw [rowD_len, sizeLine_eq]; omega) (by
      rintro d hd κ rfl
      obtain ⟨o, ho, rfl⟩ := List.mem_map.mp hd
      obtain ⟨r, r1, r2, _⟩ := plW_bd (hw o ho) hq
      have l := lplus_1 (o := o) (p := some q) ((hw o ho).sm (by omega) (by omega)).dn (fun q' e => by cases e; exact (hq.sm (by omega) (by omega)).dn)
      rw [r1] at l
      refine ⟨_, wt r, _, rfl, ?_, ⟨r, rfl, r2⟩, rfl⟩
      unfold Ls
      simp [wipeD, callK, l, noCel_w])
  obtain ⟨vs, rfl, hv⟩ := row_of ys e4
  rw [rowD_len, rowD_len] at e3
  refine ⟨vs, e3, hv, ?_⟩
  unfold la14
  unfold Ls at e1 ⊢
  simp only [bAsg_d, eR_nil, eArgs_d, aCons_d, eLst_d, Ss.cell]
  simp [e1, dTupOf, Ss.put, Ss.asg, wipeD]
theorem la15_1 {ws : List Wt} (h1 : 1 ≤ ws.length) (hx : ∀ x ∈ xs, 0 ≤ x) (hp : 0 ≤ p) : ∃ k : Nat, k < ws.length ∧ la15 (Ls ns xs p x3 x4 x5 x6 x7 x8 x9 x10 (some (.tup (rowD ws))) x12 x13 x14 x15 x16 x17 x18 x19 x20) = .nx (Ls ns xs (p + 1) x3 x4 x5 x6 x7 x8 x9 x10 (some (.tup (rowD ws))) (some (.int k)) x13 x14 x15 x16 x17 x18 x19 x20) := by
  obtain ⟨t, t1, t2, tk⟩ := take_1 xs p ws.length (by omega) hp hx
  have et : ((t.toNat : Nat) : Int) = t := by omega
  refine ⟨t.toNat, by omega, ?_⟩
  rw [et]
  have dl : dLen [.tup (rowD ws)] = some (.int ws.length) := by rw [dLen_t, rowD_len]
  unfold la15 Ls
  simp only [bAsg_d, eR_nil, eCall_d, eArgs_d, aCons_d, Ss.cell]
  simp [callK, dl, tk, Ss.put, Ss.asg, wipeD]
theorem cut_lo (l : List D) (k : Nat) (h : k ≤ l.length) : G.cutD l none (some (k : Int)) = l.take k := by
  have h0 : ¬ ((k : Int) < 0) := by omega
  unfold G.cutD HT.sIx
  simp [h0, Nat.min_eq_left h]
theorem cut_hi (l : List D) (k : Nat) (h : k ≤ l.length) : G.cutD l (some (k : Int)) none = l.drop k := by
  have h0 : ¬ ((k : Int) < 0) := by omega
  unfold G.cutD HT.sIx
  simp [h0, Nat.min_eq_left h]
  exact List.take_of_length_le (by rw [List.length_drop]; omega)
theorem la16_1 {ws : List Wt} {k : Nat} (hk : k < ws.length) (hl : ws.length ≤ 5) (hw : ∀ o ∈ ws, BdW 30 6 o) (hx : ∀ x ∈ xs, 0 ≤ x) (hp : 0 ≤ p) : ∃ (vs : List Wt) (p' : Int), 0 ≤ p' ∧ vs.length = ws.length ∧ (∀ o ∈ vs, BdW 30 6 o) ∧ la16 (Ls ns xs p x3 x4 x5 x6 x7 x8 x9 x10 x11 (some (.int k)) x13 (some (.tup (rowD ws))) x15 x16 x17 x18 x19 x20) = .nx (Ls ns xs p' x3 x4 x5 x6 x7 x8 x9 x10 x11 (some (.int k)) x13 (some (.tup (rowD ws))) x15 (some (.tup (rowD vs))) x17 x18 x19 x20) := by
  obtain ⟨o, p2, o1, o2, o3⟩ := lweight_1 xs p hp hx
  obtain ⟨r, hr, o4⟩ := one_1 [.tup (rowD ws), .tup (rowD ws), .tup (rowD (ws.take k ++ (o :: ws.drop (k + 1))))] xs p2 (by simp) o2 hx
  have hv : ∃ vs : List Wt, vs.length = ws.length ∧ (∀ o ∈ vs, BdW 30 6 o) ∧ r = .tup (rowD vs) := by
    simp only [List.mem_cons, List.not_mem_nil, or_false] at hr
    rcases hr with q | q | q
    · exact ⟨ws, rfl, hw, q⟩
    · exact ⟨ws, rfl, hw, q⟩
    · refine ⟨_, ?_, ?_, q⟩
      · simp
        omega
      · intro v hv
        rcases List.mem_append.mp hv with z | z
        · exact hw v (List.mem_of_mem_take z)
        · rcases List.mem_cons.mp z with z | z
          · rw [z]
            intro q e
            have b := o1 q e
            exact ⟨Nat.le_trans b.n (by decide), b.p, Nat.le_trans b.d (by decide), b.g⟩
          · exact hw v (List.mem_of_mem_drop z)
  obtain ⟨vs, v1, v2, rfl⟩ := hv
  refine ⟨vs, p2 + 1, by omega, v1, v2, ?_⟩
  have sz3 : (3 : Nat) ≤ sizeLine := by rw [sizeLine_eq]; decide
  have sz1 : (1 : Nat) ≤ sizeLine := by rw [sizeLine_eq]; decide
  have s1 : dSl (.tup (rowD ws)) none (some (k : Int)) = some (.tup (rowD (ws.take k))) := by
    show some (D.tup (G.cutD (rowD ws) none (some (k : Int)))) = _
    rw [cut_lo _ _ (by rw [rowD_len]; omega)]
    unfold rowD
    rw [List.map_take]
  have s2 : dSl (.tup (rowD ws)) (some ((k : Int) + 1)) none = some (.tup (rowD (ws.drop (k + 1)))) := by
    show some (D.tup (G.cutD (rowD ws) (some (((k + 1 : Nat)) : Int)) none)) = _
    rw [cut_hi _ _ (by rw [rowD_len]; omega)]
    unfold rowD
    rw [List.map_drop]
  have a1 : dAdd (.tup (rowD (ws.take k))) (.tup [wt o]) = some (.tup (rowD (ws.take k) ++ [wt o])) := if_pos (by rw [rowD_len, sizeLine_eq, List.length_take, List.length_singleton]; omega)
  have a2 : dAdd (.tup (rowD (ws.take k) ++ [wt o])) (.tup (rowD (ws.drop (k + 1)))) = some (.tup (rowD (ws.take k ++ (o :: ws.drop (k + 1))))) := by
    refine (if_pos (by rw [List.length_append, rowD_len, rowD_len, sizeLine_eq, List.length_take, List.length_drop, List.length_singleton]; omega)).trans ?_
    unfold rowD
    simp
  have hn : noCel [wt o] = true := noCel_w
  unfold la16 Ls
  simp only [bAsg_d, eR_nil, eCall_d, eArgs_d, eBin_d, eSl_d, pNone_d, pSome_d, aCons_d, Ss.cell]
  simp [callK, s1, s2, a1, a2, o3, o4, hn, dLst, dTup, sz1, sz3, Ss.put, Ss.asg, wipeD]
theorem asg_nx {c i : Nat} {vs : List Nat} {f : M D} {s : Ss} {d : D} {κ : Kp} (h : f s.ρ (s.cell (some c) []) = .ok d κ) : bAsg (some c) [] vs (tName i) f s = .nx ((s.put (some c) κ).asg vs ((s.put (some c) κ).ρ.set i (some d))) := by
  simp [h]
theorem if_dEq {E1 : M (List D)} {EA EB : M D} {L : List D} {b : Bool} {d : D} {ρ : Sd} {κ : Kp} (h1 : E1 ρ κ = .ok L κ) (h2 : dEq (.lst L) (.lst []) = some (.bl b)) (h3 : b = true → EA ρ κ = .ok d κ) (h4 : b = false → EB ρ κ = .ok d κ) : eIf (tBl (eBin dEq (eLst E1) (eArgs dLst aNil))) EA EB ρ κ = .ok d κ := by
  have l0 : dLst [] = some (.lst []) := rfl
  cases b with
  | true => simp [h1, h2, h3, l0]
  | false => simp [h1, h2, h4, l0]
theorem call_2 {g : List D → Kp → Out D} {i j : Nat} {x y d : D} {ρ : Sd} {κ κ' : Kp} (h1 : ρ[i]? = some (some x)) (h2 : ρ[j]? = some (some y)) (hn : noCel [x, y] = true) (h : g [x, y] none = .ok d κ') : eCall 2 g (aCons (eVar i) (aCons (eVar j) aNil)) ρ κ = .ok d κ := by
  simp [h1, h2, callK, hn, h]
theorem row_some : ∀ ws : List Wt, ((rowD ws).filter fun d => !d.isN).map (fun d => d) = rowD (ws.filter fun o => o.isSome)
  | [] => rfl
  | none :: ws => row_some ws
  | some q :: ws => by
    have e : rowD (some q :: ws) = wt (some q) :: rowD ws := rfl
    rw [e, List.filter_cons_of_pos (by rfl), List.filter_cons_of_pos (by rfl), List.map_cons, row_some ws]
    rfl
theorem none_all : ∀ ws : List Wt, (rowD (ws.filter fun o => o.isSome)).isEmpty = (ws.map fun o => o.isNone).all id
  | [] => rfl
  | none :: ws => by
    have := none_all ws
    simpa using this
  | some q :: ws => rfl
def due7 (ws vs : List Wt) : D := if (ws.map fun o => o.isNone).all id = true then .tup [.str "argument", .str "row"] else wt (shP none (ws.zip vs))
theorem la17_1 {ws vs : List Wt} (h1 : 1 ≤ ws.length) (hl : ws.length ≤ 5) (hv : vs.length = ws.length) (hw : ∀ o ∈ ws, SmW o) (hw2 : ∀ o ∈ vs, SmW o) : la17 (Ls ns xs p x3 x4 x5 x6 x7 x8 x9 x10 (some (.tup (rowD ws))) x12 x13 x14 x15 (some (.tup (rowD vs))) x17 x18 x19 x20) = .nx (Ls ns xs p x3 x4 x5 x6 x7 (some (due7 ws vs)) x9 x10 (some (.tup (rowD ws))) x12 x13 x14 x15 (some (.tup (rowD vs))) x17 x18 x19 x20) := by
  have cp : eComp [15] (tName 15) (iOf (eVar 11)) (tBl (eBin dNotN (eVar 15) (eC .non))) (eVar 15) (Ls ns xs p x3 x4 x5 x6 x7 x8 x9 x10 (some (.tup (rowD ws))) x12 x13 x14 x15 (some (.tup (rowD vs))) x17 x18 x19 x20).ρ (some [.int p]) = .ok (((rowD ws).filter fun d => !d.isN).map (fun d => d)) (some [.int p]) := by
    refine comp_if (fun d => !d.isN) (fun d => d) ?_ (by rw [rowD_len, sizeLine_eq]; omega) fun d hd => ⟨_, rfl, ?_, fun _ => ?_⟩
    · unfold Ls; simp
    · unfold Ls; simp [wipeD, dNotN]
    · unfold Ls; simp [wipeD]
  rw [row_some] at cp
  obtain ⟨ps, pl⟩ := pls_row (ws.filter fun o => o.isSome)
  have e := dEq_nil pl
  rw [none_all] at e
  have ls := lshift_1 (ws := ws) (vs := vs) (fun o h => (hw o h).dn) (fun o h => (hw2 o h).dn) hv (by omega)
  unfold la17
  refine (asg_nx (d := due7 ws vs) (κ := some [.int p]) ?_).trans rfl
  refine if_dEq cp e ?_ ?_
  · intro z
    unfold due7
    rw [if_pos z]
    rfl
  · intro z
    unfold due7
    rw [if_neg (by rw [z]; decide)]
    exact call_2 rfl rfl rfl ls
theorem shP_shw : ∀ (prs : List (Wt × Wt)) (f : Wt), Shw (wt f) 2 70 → (∀ q ∈ prs, BdW 1000000 1000000 q.1 ∧ BdW 1000000 1000000 q.2) → Shw (wt (shP f prs)) 2 70
  | [], f, hf, _ => hf
  | (none, none) :: r, f, hf, h => by
    unfold shP
    exact shP_shw r f hf fun q hq => h q (List.mem_cons_of_mem _ hq)
  | (none, some b) :: r, f, hf, h => by unfold shP; exact shw_non.mono (by omega) (by omega)
  | (some a, none) :: r, f, hf, h => by unfold shP; exact shw_non.mono (by omega) (by omega)
  | (some a, some b) :: r, f, hf, h => by
    have hh := h (some a, some b) List.mem_cons_self
    have g : Shw (wt (some (gp b a))) 2 70 := pl_shw (hh.2 b rfl) (bd_neg (hh.1 a rfl))
    have ih := shP_shw r (some (gp b a)) g fun q hq => h q (List.mem_cons_of_mem _ hq)
    unfold shP
    cases f with
    | none => exact ih
    | some g =>
      dsimp only
      split
      · exact ih
      · exact shw_non.mono (by omega) (by omega)
theorem la18_1 {ws vs : List Wt} (h1 : 1 ≤ ws.length) (hl : ws.length ≤ 5) (hv : vs.length = ws.length) (hw : ∀ o ∈ ws, BdW 1000000 1000000 o) (hw2 : ∀ o ∈ vs, BdW 1000000 1000000 o) : la18 (Ls ns xs p x3 x4 x5 x6 x7 (some (due7 ws vs)) x9 x10 (some (.tup (rowD ws))) x12 x13 x14 x15 (some (.tup (rowD vs))) x17 x18 x19 x20) = .nx (Ls ns xs p x3 x4 x5 x6 x7 (some (due7 ws vs)) x9 x10 (some (.tup (rowD ws))) x12 x13 x14 x15 (some (.tup (rowD vs))) x17 x18 x19 x20) := by
  have sw : ∀ o ∈ ws, SmW o := fun o h => (hw o h).sm (by omega) (by omega)
  have sv : ∀ o ∈ vs, SmW o := fun o h => (hw2 o h).sm (by omega) (by omega)
  have t : d__law_told [.int 7, .tup (rowD ws), .tup (rowD vs)] none = .ok (due7 ws vs) none := by
    unfold due7
    cases z : (ws.map fun o => o.isNone).all id with
    | true => exact told_2 rfl rfl rfl rfl (between_0 (vs := rowD vs) sw h1 (by omega) z)
    | false => exact told_1 rfl rfl rfl rfl (between_1 sw sv hv h1 (by omega) z)
  have sh : Shw (due7 ws vs) 2 70 := by
    unfold due7
    split
    · exact shw_arg.2.2
    · exact shP_shw _ none (shw_non.mono (by omega) (by omega)) fun q hq => ⟨hw q.1 (List.of_mem_zip hq).1, hw2 q.2 (List.of_mem_zip hq).2⟩
  have nc : noCel [due7 ws vs] = true := by
    unfold due7
    split
    · rfl
    · exact noCel_w
  unfold la18
  refine chk (d := due7 ws vs) (κ := some [.int p]) (κ' := some [.int p]) ?_ ?_ (sh.repr (by decide) (by decide)) nc ?_
  · unfold Ls; simp [callK, t, Ss.cell]
  · unfold Ls; simp
  · unfold Ls; simp [Ss.put]
end
end LW

set_option Elab.async false
set_option linter.all false
set_option maxRecDepth 100000
namespace LW
open PySem PySem.Spec PyProof.Rows L2 RZ GXS He GH G
def LP (ns xs : List Int) (s : Ss) : Prop := ∃ (p : Int) (x3 x4 x5 x6 x7 x8 x9 x10 x11 x12 x13 x14 x15 x16 x17 x18 x19 x20 : Option D), 0 ≤ p ∧ s = Ls ns xs p x3 x4 x5 x6 x7 x8 x9 x10 x11 x12 x13 x14 x15 x16 x17 x18 x19 x20
section
variable {ns xs : List Int} {p : Int} {x3 x4 x5 x6 x7 x8 x9 x10 x11 x12 x13 x14 x15 x16 x17 x18 x19 x20 : Option D}
theorem la_1 (hx : ∀ x ∈ xs, 0 ≤ x) (hp : 0 ≤ p) : ∃ s', l1_law (Ls ns xs p x3 x4 x5 x6 x7 x8 x9 x10 x11 x12 x13 x14 x15 x16 x17 x18 x19 x20) = .nx s' ∧ LP ns xs s' := by
  rw [la_split]
  obtain ⟨a, b, p1, ha, hb, h1, e1⟩ := la1_1 (ns := ns) (xs := xs) (p := p) (x3 := x3) (x4 := x4) (x5 := x5) (x6 := x6) (x7 := x7) (x8 := x8) (x9 := x9) (x10 := x10) (x11 := x11) (x12 := x12) (x13 := x13) (x14 := x14) (x15 := x15) (x16 := x16) (x17 := x17) (x18 := x18) (x19 := x19) (x20 := x20) hx hp
  have e2 := la2_1 (ns := ns) (xs := xs) (p := p1) (x3 := x3) (x6 := x6) (x7 := x7) (x8 := x8) (x9 := x9) (x10 := x10) (x11 := x11) (x12 := x12) (x13 := x13) (x14 := x14) (x15 := x15) (x16 := x16) (x17 := x17) (x18 := x18) (x19 := x19) (x20 := x20) ha hb
  obtain ⟨o, q, p2, ho, hq, h2, e3⟩ := la3_1 (ns := ns) (xs := xs) (p := p1) (x3 := x3) (x4 := some (.int a)) (x5 := some (.int b)) (x6 := x6) (x7 := x7) (x8 := x8) (x9 := x9) (x10 := x10) (x11 := x11) (x12 := x12) (x13 := x13) (x14 := x14) (x15 := x15) (x16 := x16) (x17 := x17) (x18 := x18) (x19 := x19) (x20 := x20) hx h1
  have so := ho.sm (by omega) (by omega)
  have sq := hq.sm (by omega) (by omega)
  have e4 := la4_1 (ns := ns) (xs := xs) (p := p2) (x3 := x3) (x4 := some (.int a)) (x5 := some (.int b)) (x8 := x8) (x9 := x9) (x10 := x10) (x11 := x11) (x12 := x12) (x13 := x13) (x14 := x14) (x15 := x15) (x16 := x16) (x17 := x17) (x18 := x18) (x19 := x19) (x20 := x20) so.dn sq.dn
  have e5 := la5_1 (ns := ns) (xs := xs) (p := p2) (x3 := x3) (x4 := some (.int a)) (x5 := some (.int b)) (x8 := none) (x9 := x9) (x10 := x10) (x11 := x11) (x12 := x12) (x13 := x13) (x14 := x14) (x15 := x15) (x16 := x16) (x17 := x17) (x18 := x18) (x19 := x19) (x20 := x20) (ds := [gr o q, plW o q]) (by simp) so.dn sq.dn
  have e6 := la6_1 (ns := ns) (xs := xs) (p := p2) (x3 := x3) (x4 := some (.int a)) (x5 := some (.int b)) (x8 := none) (x9 := x9) (x10 := x10) (x11 := x11) (x12 := x12) (x13 := x13) (x14 := x14) (x15 := x15) (x16 := x16) (x17 := x17) (x18 := x18) (x19 := x19) (x20 := x20) ho hq
  obtain ⟨c, hc, e7⟩ := la7_1 (ns := ns) (xs := xs) (p := p2) (x3 := x3) (x4 := some (.int a)) (x5 := some (.int b)) (x6 := some (wt o)) (x7 := some (wt q)) (x8 := some (.lst [gr o q, plW o q, ov o q])) (x9 := x9) (x10 := x10) (x11 := x11) (x12 := x12) (x13 := x13) (x14 := x14) (x15 := x15) (x16 := x16) (x17 := x17) (x18 := x18) (x19 := x19) (x20 := x20) hx h2
  have e8 := la8_1 (ns := ns) (xs := xs) (p := p2 + 1) (x3 := x3) (x4 := some (.int a)) (x5 := some (.int b)) (x7 := some (wt q)) (x8 := some (.lst [gr o q, plW o q, ov o q])) (x9 := x9) (x11 := x11) (x12 := x12) (x13 := x13) (x14 := x14) (x15 := x15) (x16 := x16) (x17 := x17) (x18 := x18) (x19 := x19) (x20 := x20) so.dn hc
  have e9 := la9_1 (ns := ns) (xs := xs) (p := p2 + 1) (x3 := x3) (x4 := some (.int a)) (x5 := some (.int b)) (x7 := some (wt q)) (x9 := x9) (x11 := x11) (x12 := x12) (x13 := x13) (x14 := x14) (x15 := x15) (x16 := x16) (x17 := x17) (x18 := x18) (x19 := x19) (x20 := x20) ho hc
  obtain ⟨d, hd, e10⟩ := la10_1 (ns := ns) (xs := xs) (p := p2 + 1) (x3 := x3) (x4 := some (.int a)) (x5 := some (.int b)) (x6 := some (wt o)) (x7 := some (wt q)) (x8 := some (rs o c)) (x9 := x9) (x10 := some (.int c)) (x11 := x11) (x12 := x12) (x13 := x13) (x14 := x14) (x15 := x15) (x16 := x16) (x17 := x17) (x18 := x18) (x19 := x19) (x20 := x20) hx (by omega)
  have e11 := la11_1 (ns := ns) (xs := xs) (p := p2 + 1 + 1) (x3 := x3) (x4 := some (.int a)) (x5 := some (.int b)) (x7 := some (wt q)) (x8 := some (rs o c)) (x9 := x9) (x11 := x11) (x12 := x12) (x13 := x13) (x14 := x14) (x15 := x15) (x16 := x16) (x17 := x17) (x18 := x18) (x19 := x19) (x20 := x20) ho hd
  obtain ⟨ws, p3, h3, w1, w2, w3, e12⟩ := la12_1 (ns := ns) (xs := xs) (p := p2 + 1 + 1) (x3 := x3) (x4 := some (.int a)) (x5 := some (.int b)) (x6 := some (wt o)) (x7 := some (wt q)) (x8 := some (rs o c)) (x9 := x9) (x10 := some (.int d)) (x11 := x11) (x12 := x12) (x13 := x13) (x14 := x14) (x15 := x15) (x16 := x16) (x17 := x17) (x18 := x18) (x19 := x19) (x20 := x20) hx (by omega)
  obtain ⟨st, t1, e13⟩ := la13_1 (ns := ns) (xs := xs) (p := p3) (x3 := x3) (x4 := some (.int a)) (x5 := some (.int b)) (x6 := some (wt o)) (x7 := some (wt q)) (x8 := some (rs o c)) (x9 := x9) (x10 := some (.int d)) (x11 := some (.tup (rowD ws))) (x12 := x12) (x13 := x13) (x14 := x14) (x15 := x15) (x16 := x16) (x17 := x17) (x18 := x18) (x19 := x19) (x20 := x20) hx h3
  obtain ⟨vs, v1, v2, e14⟩ := la14_1 (ns := ns) (xs := xs) (p := p3 + 1) (x3 := x3) (x4 := some (.int a)) (x5 := some (.int b)) (x6 := some (wt o)) (x7 := some (wt q)) (x8 := some (rs o c)) (x9 := x9) (x10 := some (.int d)) (x12 := x12) (x14 := x14) (x15 := x15) (x16 := x16) (x17 := x17) (x18 := x18) (x19 := x19) (x20 := x20) w2 w3 t1
  obtain ⟨k, k1, e15⟩ := la15_1 (ns := ns) (xs := xs) (p := p3 + 1) (x3 := x3) (x4 := some (.int a)) (x5 := some (.int b)) (x6 := some (wt o)) (x7 := some (wt q)) (x8 := some (rs o c)) (x9 := x9) (x10 := some (.int d)) (x12 := x12) (x13 := some (wt (some st))) (x14 := some (.tup (rowD vs))) (x15 := x15) (x16 := x16) (x17 := x17) (x18 := x18) (x19 := x19) (x20 := x20) w1 hx (by omega)
  obtain ⟨us, p4, h4, u1, u2, e16⟩ := la16_1 (ns := ns) (xs := xs) (p := p3 + 1 + 1) (x3 := x3) (x4 := some (.int a)) (x5 := some (.int b)) (x6 := some (wt o)) (x7 := some (wt q)) (x8 := some (rs o c)) (x9 := x9) (x10 := some (.int d)) (x11 := some (.tup (rowD ws))) (x13 := some (wt (some st))) (x15 := x15) (x16 := x16) (x17 := x17) (x18 := x18) (x19 := x19) (x20 := x20) (k := k) (by omega) (by omega) v2 hx (by omega)
  have e17 := la17_1 (ns := ns) (xs := xs) (p := p4) (x3 := x3) (x4 := some (.int a)) (x5 := some (.int b)) (x6 := some (wt o)) (x7 := some (wt q)) (x8 := some (rs o c)) (x9 := x9) (x10 := some (.int d)) (x12 := some (.int k)) (x13 := some (wt (some st))) (x14 := some (.tup (rowD vs))) (x15 := x15) (x17 := x17) (x18 := x18) (x19 := x19) (x20 := x20) w1 w2 (by omega) (fun o h => (w3 o h).sm (by omega) (by omega)) (fun o h => (u2 o h).sm (by omega) (by omega))
  have up : ∀ {m n : Nat} {o : Wt}, m ≤ 1000000 → n ≤ 1000000 → BdW m n o → BdW 1000000 1000000 o := fun h1 h2 h q e => ⟨Nat.le_trans (h q e).n h1, (h q e).p, Nat.le_trans (h q e).d h2, (h q e).g⟩
  have e18 := la18_1 (ns := ns) (xs := xs) (p := p4) (x3 := x3) (x4 := some (.int a)) (x5 := some (.int b)) (x6 := some (wt o)) (x7 := some (wt q)) (x9 := x9) (x10 := some (.int d)) (x12 := some (.int k)) (x13 := some (wt (some st))) (x14 := some (.tup (rowD vs))) (x15 := x15) (x17 := x17) (x18 := x18) (x19 := x19) (x20 := x20) w1 w2 (by omega) (fun o h => up (by omega) (by omega) (w3 o h)) (fun o h => up (by omega) (by omega) (u2 o h))
  refine ⟨_, (seq_nx e1).trans ((seq_nx e2).trans ((seq_nx e3).trans ((seq_nx e4).trans ((seq_nx e5).trans ((seq_nx e6).trans ((seq_nx e7).trans ((seq_nx e8).trans ((seq_nx e9).trans ((seq_nx e10).trans ((seq_nx e11).trans ((seq_nx e12).trans ((seq_nx e13).trans ((seq_nx e14).trans ((seq_nx e15).trans ((seq_nx e16).trans ((seq_nx e17).trans e18)))))))))))))))), ?_⟩
  exact ⟨_, _, _, _, _, _, _, _, _, _, _, _, _, _, _, _, _, _, _, h4, rfl⟩
theorem loop_1 {s : Ss} (hx : ∀ x ∈ xs, 0 ≤ x) (h : LP ns xs s) : ∃ s', forGo [3] (tName 3) l1_law (rangeD 0 5) s = .nx s' ∧ LP ns xs s' := by
  refine for_inv0 (LP ns xs) _ s h ?_
  rintro d s hd ⟨p, x3, x4, x5, x6, x7, x8, x9, x10, x11, x12, x13, x14, x15, x16, x17, x18, x19, x20, hp, rfl⟩
  refine ⟨_, rfl, ?_⟩
  obtain ⟨s', e, h'⟩ := la_1 (ns := ns) (x3 := some d) (x4 := x4) (x5 := x5) (x6 := x6) (x7 := x7) (x8 := x8) (x9 := x9) (x10 := x10) (x11 := x11) (x12 := x12) (x13 := x13) (x14 := x14) (x15 := x15) (x16 := x16) (x17 := x17) (x18 := x18) (x19 := x19) (x20 := x20) hx hp
  exact ⟨s', .inl e, h'⟩
end
end LW

set_option Elab.async false
set_option linter.all false
set_option maxRecDepth 100000
namespace LW
open PySem PySem.Spec PyProof.Rows L2 RZ GXS He GH G
/-! ### the end of the law: wrong values -/
noncomputable def lb1 : Ss → Fl := bAsg (some 2) [] [1] (tName 1) (eCall 1 d__law_draws (aCons (eVar 0) aNil))
noncomputable def lb2 : Ss → Fl := bOwn (some 2) [] 2 (aFree (aCons (eC (.int 0)) aNil))
noncomputable def lb3 : Ss → Fl := bFor (some 2) [3] (tName 3) (iArgs dRange1 (aCons (eC (.int 5)) aNil)) l1_law
noncomputable def lb4 : Ss → Fl := bAsg (some 2) [] [17] (tName 17) (eCall 3 d__law_one (aCons (eArgs dLst (aCons (eC (.int 5)) (aCons (eArgs dTup (aCons (eC (.int 1)) (aCons (eC (.int 0)) aNil))) (aCons (eArgs dTup (aCons (eC (.int 2)) (aCons (eC (.int 4)) aNil))) (aCons (eArgs dTup (aCons (eC (.int 1)) (aCons (eUn dNeg (eC (.int 2))) aNil))) (aCons (eArgs dTup (aCons (eC (.bl true)) (aCons (eC (.int 1)) aNil))) (aCons (eArgs dTup (aCons (eC (.int 1)) aNil)) (aCons (eArgs dTup (aCons (eC (.int 1000001)) (aCons (eC (.int 1)) aNil))) (aCons (eArgs dTup (aCons (eC (.int 1)) (aCons (eC (.int 1000001)) aNil))) (aCons (eC (.str "1")) aNil)))))))))) (aCons (eVar 1) (aCel aNil))))
noncomputable def lb5 : Ss → Fl := bIf (some 2) [] ((G.tOr (tBl (eBin dNe (eLst (eComp [9] (tName 9) (iOf (eArgs dTup (aCons (eC (.int 1)) (aCons (eC (.int 2)) (aCons (eC (.int 3)) (aCons (eC (.int 4)) (aCons (eC (.int 5)) (aCons (eC (.int 6)) aNil)))))))) mTrue (eCall 3 d__law_told (aCons (eVar 9) (aCons (eVar 17) (aCons (eArgs dTup (aCons (eC (.int 1)) (aCons (eC (.int 2)) aNil))) aNil)))))) (eBin dMul (eArgs dLst (aCons (eArgs dTup (aCons (eC (.str "argument")) (aCons (eC (.str "one")) aNil))) aNil)) (eC (.int 6))))) (tBl (eBin dNe (eLst (eComp [9] (tName 9) (iOf (eArgs dTup (aCons (eC (.int 1)) (aCons (eC (.int 2)) (aCons (eC (.int 3)) (aCons (eC (.int 4)) aNil)))))) mTrue (eCall 3 d__law_told (aCons (eVar 9) (aCons (eArgs dTup (aCons (eC (.int 1)) (aCons (eC (.int 2)) aNil))) (aCons (eVar 17) aNil)))))) (eBin dMul (eArgs dLst (aCons (eArgs dTup (aCons (eC (.str "argument")) (aCons (eC (.str "other")) aNil))) aNil)) (eC (.int 4))))))) ((bRet (some 2) [] (eC (.bl false)))) bNext
noncomputable def lb6 : Ss → Fl := bAsg (some 2) [] [18] (tName 18) (eCall 3 d__law_one (aCons (eArgs dLst (aCons (eC .non) (aCons (eC (.bl true)) (aCons (eC (.int 1000001)) (aCons (eC (.str "1")) (aCons (eArgs dTup (aCons (eC (.int 1)) (aCons (eC (.int 1)) aNil))) aNil)))))) (aCons (eVar 1) (aCel aNil))))
noncomputable def lb7 : Ss → Fl := bAsg (some 2) [] [19] (tName 19) (eArgs dLst (aCons (eCall 3 d__law_told (aCons (eC (.int 0)) (aCons (eVar 18) (aCons (eC (.int 0)) aNil)))) (aCons (eCall 3 d__law_told (aCons (eC (.int 0)) (aCons (eC (.int 1)) (aCons (eVar 18) aNil)))) (aCons (eCall 3 d__law_told (aCons (eC (.int 5)) (aCons (eArgs dTup (aCons (eC (.int 1)) (aCons (eC (.int 1)) aNil))) (aCons (eVar 18) aNil)))) (aCons (eCall 3 d__law_told (aCons (eC (.int 6)) (aCons (eArgs dTup (aCons (eC (.int 1)) (aCons (eC (.int 1)) aNil))) (aCons (eCall 3 d__law_one (aCons (eArgs dLst (aCons (eC (.int 0)) (aCons (eUn dNeg (eC (.int 1))) (aCons (eVar 18) aNil)))) (aCons (eVar 1) (aCel aNil)))) aNil)))) aNil)))))
noncomputable def lb8 : Ss → Fl := bAsg (some 2) [] [19] (tName 19) (eBin dAdd (eVar 19) (eArgs dLst (aCons (eCall 3 d__law_told (aCons (eC (.int 7)) (aCons (eCall 3 d__law_one (aCons (eArgs dLst (aCons (eC .non) (aCons (eArgs dTup aNil) (aCons (eArgs dTup (aCons (eC .non) (aCons (eC .non) aNil))) (aCons (eBin dMul (eArgs dTup (aCons (eArgs dTup (aCons (eC (.int 1)) (aCons (eC (.int 1)) aNil))) aNil)) (eC (.int 65))) (aCons (eArgs dTup (aCons (eVar 17) aNil)) (aCons (eArgs dLst (aCons (eArgs dTup (aCons (eC (.int 1)) (aCons (eC (.int 1)) aNil))) aNil)) aNil))))))) (aCons (eVar 1) (aCel aNil)))) (aCons (eArgs dTup (aCons (eArgs dTup (aCons (eC (.int 1)) (aCons (eC (.int 1)) aNil))) aNil)) aNil)))) aNil)))
noncomputable def lb9 : Ss → Fl := bAsg (some 2) [] [19] (tName 19) (eBin dAdd (eVar 19) (eArgs dLst (aCons (eCall 3 d__law_told (aCons (eC (.int 7)) (aCons (eArgs dTup (aCons (eArgs dTup (aCons (eC (.int 1)) (aCons (eC (.int 1)) aNil))) (aCons (eC .non) aNil))) (aCons (eCall 3 d__law_one (aCons (eArgs dLst (aCons (eC .non) (aCons (eArgs dTup (aCons (eArgs dTup (aCons (eC (.int 1)) (aCons (eC (.int 1)) aNil))) aNil)) (aCons (eArgs dTup (aCons (eC .non) (aCons (eVar 17) aNil))) aNil)))) (aCons (eVar 1) (aCel aNil)))) aNil)))) aNil)))
noncomputable def lb10 : Ss → Fl := bRet (some 2) [] (eBin dEq (eVar 19) (eLst (eComp [20] (tName 20) (iOf (eArgs dLst (aCons (eC (.str "number")) (aCons (eC (.str "other")) (aCons (eC (.str "count")) (aCons (eC (.str "count")) (aCons (eC (.str "row")) (aCons (eC (.str "other")) aNil)))))))) mTrue (eArgs dTup (aCons (eC (.str "argument")) (aCons (eVar 20) aNil))))))
theorem lb_split : b_law = bSeq lb1 (bSeq lb2 (bSeq lb3 (bSeq lb4 (bSeq lb5 (bSeq lb6 (bSeq lb7 (bSeq lb8 (bSeq lb9 (lb10))))))))) := rfl
def bads : List D := [.int 5, .tup [.int 1, .int 0], .tup [.int 2, .int 4], .tup [.int 1, .int (-2)], .tup [.bl true, .int 1], .tup [.int 1], .tup [.int 1000001, .int 1], .tup [.int 1, .int 1000001], .str "1"]
theorem issm_bad : ∀ d ∈ bads, d_is_small [d] none = .ok (.bl false) none := by
  intro d hd
  simp only [bads, List.mem_cons, List.not_mem_nil, or_false] at hd
  have f24 := isfr_1 2 4
  rcases hd with rfl | rfl | rfl | rfl | rfl | rfl | rfl | rfl | rfl
  · rfl
  · rfl
  · refine (fd (b := b_is_small) (s := ⟨[some (.tup [.int 2, .int 4])], [none]⟩) rfl rfl).trans ?_
    unfold b_is_small
    simp [isT_2, callK, inr_1, dNe_i, dLen, f24]
    decide
  · rfl
  · rfl
  · rfl
  · rfl
  · rfl
  · rfl
theorem bad_cel : ∀ d ∈ bads, d.isCel = false ∧ (∀ r, noCel (d :: r) = noCel r) ∧ d.isN = false := by
  intro d hd
  simp only [bads, List.mem_cons, List.not_mem_nil, or_false] at hd
  rcases hd with rfl | rfl | rfl | rfl | rfl | rfl | rfl | rfl | rfl <;> exact ⟨rfl, fun _ => rfl, rfl⟩
theorem smw_bad {d : D} (h : d ∈ bads) : d_is_small_weight [d] none = .ok (.bl false) none := by
  obtain ⟨c1, c2, c3⟩ := bad_cel d h
  have e := issm_bad d h
  have n := c2 []
  have h1 : (celB none 0 [d] && hasC none none [d].length) = true := by cases d <;> first | rfl | exact absurd c1 (by decide)
  refine (fd (b := b_is_small_weight) (s := ⟨[some d], [none]⟩) h1 (by cases d <;> first | rfl | exact absurd c1 (by decide))).trans ?_
  unfold b_is_small_weight
  simp [eOr, callK, e, dIsN, c3, dTru, n]
theorem dem_bad {d : D} (h : d ∈ bads) (x : Str) : d_demand_weight [d, .str x] none = .er (raiseA x) none := by
  obtain ⟨c1, c2, c3⟩ := bad_cel d h
  have e := smw_bad h
  have n := c2 []
  refine (fd (b := b_demand_weight) (s := ⟨[some d, some (.str x)], [none, none]⟩) (by cases d <;> first | rfl | exact absurd c1 (by decide)) (by cases d <;> first | rfl | exact absurd c1 (by decide))).trans ?_
  unfold b_demand_weight
  simp [callK, e, n]
  rfl
abbrev w12 : D := .tup [.int 1, .int 2]
theorem sm12 : SmW (some (1, 2)) := fun q e => by cases e; exact ⟨by decide, by decide, by decide, by decide, by decide⟩
theorem dem2_bad {d w : D} (h : d ∈ bads) (hw : w.isCel = false) : d_demand_two [d, w] none = .er (raiseA "one") none := by
  obtain ⟨c1, c2, c3⟩ := bad_cel d h
  have e := dem_bad h "one"
  have n := c2 [.str "one"]
  refine (fd (b := b_demand_two) (s := ⟨[some d, some w], [none, none]⟩) (by cases d <;> first | (cases w <;> first | rfl | exact absurd hw (by decide)) | exact absurd c1 (by decide)) (by cases d <;> first | (cases w <;> first | rfl | exact absurd hw (by decide)) | exact absurd c1 (by decide))).trans ?_
  unfold b_demand_two
  simp [callK, e, n]
theorem dem2_bad2 {d : D} (h : d ∈ bads) : d_demand_two [w12, d] none = .er (raiseA "other") none := by
  obtain ⟨c1, c2, c3⟩ := bad_cel d h
  have e := dem_bad h "other"
  have e1 : d_demand_weight [w12, .str "one"] none = .ok .non none := dem_1 sm12 "one"
  have n := c2 [.str "other"]
  refine (fd (b := b_demand_two) (s := ⟨[some w12, some d], [none, none]⟩) (by cases d <;> first | rfl | exact absurd c1 (by decide)) (by cases d <;> first | rfl | exact absurd c1 (by decide))).trans ?_
  unfold b_demand_two
  simp [callK, e, e1, n]
/-- the six calls -/
theorem six {d : D} (h : d ∈ bads) : d_plus [d, w12] none = .er (raiseA "one") none ∧ d_times [d, w12] none = .er (raiseA "one") none ∧ d_over [d, w12] none = .er (raiseA "one") none ∧ d_compare [d, w12] none = .er (raiseA "one") none ∧ d_raised [d, w12] none = .er (raiseA "one") none ∧ d_root [d, w12] none = .er (raiseA "one") none := by
  obtain ⟨c1, c2, c3⟩ := bad_cel d h
  have e2 : d_demand_two [d, w12] none = .er (raiseA "one") none := dem2_bad h rfl
  have e := dem_bad h "one"
  have n := c2 [.str "one"]
  have n2 := c2 [w12]
  have k1 : (celB none 0 [d, w12] && hasC none none [d, w12].length) = true := by cases d <;> first | rfl | exact absurd c1 (by decide)
  have k2 : s0 2 [d, w12] none = ⟨[some d, some w12], [none, none]⟩ := by cases d <;> first | rfl | exact absurd c1 (by decide)
  refine ⟨?_, ?_, ?_, ?_, ?_, ?_⟩
  · refine (fd (b := b_plus) k1 k2).trans ?_
    unfold b_plus
    simp [callK, e2, n2]
  · refine (fd (b := b_times) k1 k2).trans ?_
    unfold b_times
    simp [callK, e2, n2]
  · refine (fd (b := b_over) k1 k2).trans ?_
    unfold b_over
    simp [callK, e2, n2]
  · refine (fd (b := b_compare) k1 k2).trans ?_
    unfold b_compare
    simp [callK, e2, n2]
  · refine (fd (b := b_raised) k1 k2).trans ?_
    unfold b_raised
    simp [callK, e, n]
  · refine (fd (b := b_root) k1 k2).trans ?_
    unfold b_root
    simp [callK, e, n]
theorem four {d : D} (h : d ∈ bads) : d_plus [w12, d] none = .er (raiseA "other") none ∧ d_times [w12, d] none = .er (raiseA "other") none ∧ d_over [w12, d] none = .er (raiseA "other") none ∧ d_compare [w12, d] none = .er (raiseA "other") none := by
  obtain ⟨c1, c2, c3⟩ := bad_cel d h
  have e2 : d_demand_two [w12, d] none = .er (raiseA "other") none := dem2_bad2 h
  have n2 := c2 []
  have k1 : (celB none 0 [w12, d] && hasC none none [w12, d].length) = true := by cases d <;> first | rfl | exact absurd c1 (by decide)
  have k2 : s0 2 [w12, d] none = ⟨[some w12, some d], [none, none]⟩ := by cases d <;> first | rfl | exact absurd c1 (by decide)
  refine ⟨?_, ?_, ?_, ?_⟩
  · refine (fd (b := b_plus) k1 k2).trans ?_
    unfold b_plus
    simp [callK, e2, n2]
  · refine (fd (b := b_times) k1 k2).trans ?_
    unfold b_times
    simp [callK, e2, n2]
  · refine (fd (b := b_over) k1 k2).trans ?_
    unfold b_over
    simp [callK, e2, n2]
  · refine (fd (b := b_compare) k1 k2).trans ?_
    unfold b_compare
    simp [callK, e2, n2]
def argD (x : Str) : D := .tup [.str "argument", .str x]
theorem told6 {d : D} (h : d ∈ bads) : ∀ c ∈ [D.int 1, D.int 2, D.int 3, D.int 4, D.int 5, D.int 6], d__law_told [c, d, w12] none = .ok (argD "one") none := by
  obtain ⟨c1, c2, c3⟩ := bad_cel d h
  obtain ⟨s1, s2, s3, s4, s5, s6⟩ := six h
  intro c hc
  simp only [List.mem_cons, List.not_mem_nil, or_false] at hc
  rcases hc with rfl | rfl | rfl | rfl | rfl | rfl
  · exact told_2 c1 rfl rfl rfl s1
  · exact told_2 c1 rfl rfl rfl s2
  · exact told_2 c1 rfl rfl rfl s3
  · exact told_2 c1 rfl rfl rfl s4
  · exact told_2 c1 rfl rfl rfl s5
  · exact told_2 c1 rfl rfl rfl s6
theorem told4 {d : D} (h : d ∈ bads) : ∀ c ∈ [D.int 1, D.int 2, D.int 3, D.int 4], d__law_told [c, w12, d] none = .ok (argD "other") none := by
  obtain ⟨c1, c2, c3⟩ := bad_cel d h
  obtain ⟨s1, s2, s3, s4⟩ := four h
  intro c hc
  simp only [List.mem_cons, List.not_mem_nil, or_false] at hc
  rcases hc with rfl | rfl | rfl | rfl
  · exact told_2 rfl c1 rfl rfl s1
  · exact told_2 rfl c1 rfl rfl s2
  · exact told_2 rfl c1 rfl rfl s3
  · exact told_2 rfl c1 rfl rfl s4
/-! wrong numbers -/
def odds : List D := [.non, .bl true, .int 1000001, .str "1", .tup [.int 1, .int 1]]
theorem inr_odd : ∀ d ∈ odds, ∀ lo : Int, d_in_range [d, .int lo, .int 1000000] none = .ok (.bl false) none := by
  intro d hd lo
  simp only [odds, List.mem_cons, List.not_mem_nil, or_false] at hd
  rcases hd with rfl | rfl | rfl | rfl | rfl
  · rfl
  · rfl
  · rw [inr_1]
    simp
  · rfl
  · rfl
theorem odd_cel : ∀ d ∈ odds, d.isCel = false ∧ (∀ r, noCel (d :: r) = noCel r) := by
  intro d hd
  simp only [odds, List.mem_cons, List.not_mem_nil, or_false] at hd
  rcases hd with rfl | rfl | rfl | rfl | rfl <;> exact ⟨rfl, fun _ => rfl⟩
abbrev w11 : D := .tup [.int 1, .int 1]
theorem sm11 : SmW (some (1, 1)) := fun q e => by cases e; exact ⟨by decide, by decide, by decide, by decide, by decide⟩
theorem w_odd {d : D} (h : d ∈ odds) : d_weight [d, .int 0] none = .er (raiseA "number") none ∧ d_weight [.int 1, d] none = .er (raiseA "other") none ∧ d_raised [w11, d] none = .er (raiseA "count") none ∧ (∀ x, x ∈ [D.int 0, D.int (-1), d] → d_root [w11, x] none = .er (raiseA "count") none ∧ x.isCel = false) := by
  obtain ⟨c1, c2⟩ := odd_cel d h
  have e1 := inr_odd d h (-1000000)
  have e2 := inr_odd d h 1
  have n := fun i j => c2 [.int i, .int j]
  have e3 : d_demand_weight [w11, .str "one"] none = .ok .non none := dem_1 sm11 "one"
  refine ⟨?_, ?_, ?_, ?_⟩
  · refine (fd (b := b_weight) (s := ⟨[some d, some (.int 0)], [none, none]⟩) (by cases d <;> first | rfl | exact absurd c1 (by decide)) (by cases d <;> first | rfl | exact absurd c1 (by decide))).trans ?_
    unfold b_weight
    simp [callK, n, e1]
    rfl
  · refine (fd (b := b_weight) (s := ⟨[some (.int 1), some d], [none, none]⟩) (by cases d <;> first | rfl | exact absurd c1 (by decide)) (by cases d <;> first | rfl | exact absurd c1 (by decide))).trans ?_
    unfold b_weight
    simp [callK, n, e1, inr_1]
    rfl
  · refine (fd (b := b_raised) (s := ⟨[some w11, some d], [none, none]⟩) (by cases d <;> first | rfl | exact absurd c1 (by decide)) (by cases d <;> first | rfl | exact absurd c1 (by decide))).trans ?_
    unfold b_raised
    simp [callK, n, e1, e3]
    rfl
  · intro x hx
    have hr : d_in_range [x, .int 1, .int 1000000] none = .ok (.bl false) none ∧ x.isCel = false ∧ (∀ r, noCel (x :: r) = noCel r) := by
      simp only [List.mem_cons, List.not_mem_nil, or_false] at hx
      rcases hx with rfl | rfl | rfl
      · exact ⟨by rw [inr_1]; rfl, rfl, fun _ => rfl⟩
      · exact ⟨by rw [inr_1]; rfl, rfl, fun _ => rfl⟩
      · exact ⟨e2, c1, c2⟩
    obtain ⟨r1, r2, r3⟩ := hr
    have n := fun i j => r3 [.int i, .int j]
    refine ⟨?_, r2⟩
    refine (fd (b := b_root) (s := ⟨[some w11, some x], [none, none]⟩) (by cases x <;> first | rfl | exact absurd r2 (by decide)) (by cases x <;> first | rfl | exact absurd r2 (by decide))).trans ?_
    unfold b_root
    simp [callK, n, r1, e3]
    rfl
end LW

set_option Elab.async false
set_option linter.all false
set_option maxRecDepth 100000
namespace LW
open PySem PySem.Spec PyProof.Rows L2 RZ GXS He GH G
/-! ### the end of the law: wrong rows -/
def rowsX (bad : D) : List D := [.non, .tup [], .tup [.non, .non], .tup (List.replicate 65 w11), .tup [bad], .lst [w11]]
theorem isrow_no {x : D} {a b : Int} (hc : x.isCel = false) (ht : dIsi "tuple" [x] = some (.bl false)) : d_is_row [x, .int a, .int b] none = .ok (.bl false) none := by
  refine (fd (b := b_is_row) (s := ⟨[some x, some (.int a), some (.int b), none], [none, none, none, none]⟩) (by cases x <;> first | rfl | exact absurd hc (by decide)) (by cases x <;> first | rfl | exact absurd hc (by decide))).trans ?_
  unfold b_is_row
  simp [ht]
theorem isrow_len {xs : List D} {a b : Int} (h : (decide (a ≤ xs.length) && decide ((xs.length : Int) ≤ b)) = false) : d_is_row [.tup xs, .int a, .int b] none = .ok (.bl false) none := by
  refine (fd (b := b_is_row) (s := ⟨[some (.tup xs), some (.int a), some (.int b), none], [none, none, none, none]⟩) rfl rfl).trans ?_
  unfold b_is_row
  by_cases z : a ≤ xs.length
  · have z2 : ¬ ((xs.length : Int) ≤ b) := by
      intro q
      simp [z, q] at h
    simp [isT_n, eChain, z, z2]
  · simp [isT_n, eChain, z]
theorem isrow_bad {xs : List D} {a b : Int} (g : D → Bool) (hz : xs.length ≤ 1000) (h1 : a ≤ xs.length) (h2 : (xs.length : Int) ≤ b) (hg : ∀ d ∈ xs, noCel [d] = true ∧ d_is_small_weight [d] none = .ok (.bl (g d)) none) (hb : xs.all g = false) : d_is_row [.tup xs, .int a, .int b] none = .ok (.bl false) none := by
  refine (fd (b := b_is_row) (s := ⟨[some (.tup xs), some (.int a), some (.int b), none], [none, none, none, none]⟩) rfl rfl).trans ?_
  unfold b_is_row
  have cp : eComp [3] (tName 3) (iOf (eVar 0)) mTrue (eCall 1 d_is_small_weight (aCons (eVar 3) aNil)) [some (.tup xs), some (.int a), some (.int b), none] none = .ok (xs.map fun d => .bl (g d)) none := by
    refine (comp_ok (xs := xs) (fun d => .bl (g d)) (by simp) (by rw [sizeLine_eq]; omega) fun e he => ?_)
    obtain ⟨q1, q2⟩ := hg e he
    refine ⟨_, rfl, ?_⟩
    simp [callK, q1, q2, wipeD]
  have er : (xs.map fun d => D.bl (g d)) = (xs.map g).map .bl := by rw [List.map_map]; rfl
  have al := all_map (xs.map g)
  have e2 : (xs.map g).all id = false := by
    rw [List.all_map]
    exact hb
  rw [e2] at al
  rw [er] at cp
  simp only [List.map_map] at al cp
  simp [isT_n, eChain, dLen_t, h1, h2, cp, al]
theorem betw_row {x y : D} (hc : x.isCel = false) (hn : ∀ r, noCel (x :: r) = noCel r) (hy : y.isCel = false) (h : d_is_row [x, .int 1, .int 64] none = .ok (.bl false) none) : d_shift_between [x, y] none = .er (raiseA "row") none := by
  refine (fd (b := b_shift_between) (s := ⟨[some x, some y, none], [none, none, none]⟩) (by cases x <;> first | (cases y <;> first | rfl | exact absurd hy (by decide)) | exact absurd hc (by decide)) (by cases x <;> first | (cases y <;> first | rfl | exact absurd hy (by decide)) | exact absurd hc (by decide))).trans ?_
  unfold b_shift_between
  simp [callK, hn, h]
  rfl
theorem betw_other {y : D} (hy : y.isCel = false) (hn : ∀ r, noCel (y :: r) = noCel r) (h : d_is_row [y, .int 2, .int 2] none = .ok (.bl false) none) : d_shift_between [.tup [w11, .non], y] none = .er (raiseA "other") none := by
  refine (fd (b := b_shift_between) (s := ⟨[some (.tup [w11, .non]), some y, none], [none, none, none]⟩) (by cases y <;> first | rfl | exact absurd hy (by decide)) (by cases y <;> first | rfl | exact absurd hy (by decide))).trans ?_
  have sw : ∀ o ∈ [(some (1, 1) : Wt), none], SmW o := by
    intro o ho
    simp only [List.mem_cons, List.not_mem_nil, or_false] at ho
    rcases ho with rfl | rfl
    · exact sm11
    · exact fun q e => nomatch e
  have e1 : d_is_row [.tup [w11, .non], .int 1, .int 64] none = .ok (.bl true) none := isrow_1 (ws := [some (1, 1), none]) sw (a := 1) (b := 64) (by decide) (by decide) (by decide)
  have dr : d_demand_row [y, .int 2, .str "other"] none = .er (raiseA "other") none := by
    refine (fd (b := b_demand_row) (s := ⟨[some y, some (.int 2), some (.str "other")], [none, none, none]⟩) (by cases y <;> first | rfl | exact absurd hy (by decide)) (by cases y <;> first | rfl | exact absurd hy (by decide))).trans ?_
    unfold b_demand_row
    simp [callK, hn, h]
    rfl
  have e4 : eComp [2] (tName 2) (iOf (eVar 0)) mTrue (eBin dIsN (eVar 2) (eC .non)) [some (.tup [w11, .non]), some y, none] none = .ok [.bl false, .bl true] none := allnon_1 (ws := [some (1, 1), none]) (a := y) (by decide)
  have e5 : dAll [.lst [.bl false, .bl true]] = some (.bl false) := rfl
  have hl : dLen [.tup [w11, .non]] = some (.int 2) := rfl
  unfold b_shift_between
  simp only [bSeq_d, bIf_d, eR_nil, tOr_d, tNot_d, tTru_d, eCall_d, aCons_d, aNil_d, eVar_d, eC_d, eArgs_d, eLst_d, bExpr_d]
  simp [callK, hn, e1, e4, e5, hl, dr]
theorem betw_X {bad : D} (hb : bad ∈ bads) : ∀ x ∈ rowsX bad, d_shift_between [x, .tup [w11]] none = .er (raiseA "row") none ∧ x.isCel = false ∧ noCel [x, .tup [w11]] = true := by
  obtain ⟨c1, c2, c3⟩ := bad_cel bad hb
  intro x hx
  simp only [rowsX, List.mem_cons, List.not_mem_nil, or_false] at hx
  rcases hx with rfl | rfl | rfl | rfl | rfl | rfl
  · exact ⟨betw_row rfl (fun _ => rfl) rfl (isrow_no rfl rfl), rfl, rfl⟩
  · exact ⟨betw_row rfl (fun _ => rfl) rfl (isrow_len (by decide)), rfl, rfl⟩
  · refine ⟨between_0 (ws := [none, none]) (vs := [w11]) (fun o ho => ?_) (by decide) (by decide) rfl, rfl, rfl⟩
    simp only [List.mem_cons, List.not_mem_nil, or_false, or_self] at ho
    subst ho
    exact fun q e => nomatch e
  · exact ⟨betw_row rfl (fun _ => rfl) rfl (isrow_len (by rw [List.length_replicate]; decide)), rfl, rfl⟩
  · refine ⟨betw_row rfl (fun _ => rfl) rfl (isrow_bad (fun _ => false) (by simp) (by simp) (by simp) (fun d hd => ?_) rfl), rfl, rfl⟩
    rw [List.mem_singleton.mp hd]
    exact ⟨c2 [], smw_bad hb⟩
  · exact ⟨betw_row rfl (fun _ => rfl) rfl (isrow_no rfl rfl), rfl, rfl⟩
def rowsY (bad : D) : List D := [.non, .tup [w11], .tup [.non, bad]]
theorem betw_Y {bad : D} (hb : bad ∈ bads) : ∀ y ∈ rowsY bad, d_shift_between [.tup [w11, .non], y] none = .er (raiseA "other") none ∧ y.isCel = false ∧ noCel [.tup [w11, .non], y] = true := by
  obtain ⟨c1, c2, c3⟩ := bad_cel bad hb
  intro x hx
  simp only [rowsY, List.mem_cons, List.not_mem_nil, or_false] at hx
  rcases hx with rfl | rfl | rfl
  · exact ⟨betw_other rfl (fun _ => rfl) (isrow_no rfl rfl), rfl, rfl⟩
  · exact ⟨betw_other rfl (fun _ => rfl) (isrow_len (by decide)), rfl, rfl⟩
  · refine ⟨betw_other rfl (fun _ => rfl) (isrow_bad (fun d => d.isN) (by simp) (by simp) (by simp) (fun d hd => ?_) (by simp [c3])), rfl, rfl⟩
    simp only [List.mem_cons, List.not_mem_nil, or_false] at hd
    rcases hd with rfl | rfl
    · exact ⟨rfl, rfl⟩
    · rw [c3]
      exact ⟨c2 [], smw_bad hb⟩
end LW

set_option Elab.async false
set_option linter.all false
set_option maxRecDepth 100000
namespace LW
open PySem PySem.Spec PyProof.Rows L2 RZ GXS He GH G
/-! ### the end of the law -/
theorem dNe_c {d e : D} {p q : PyData} {b : Bool} (hp : d.p = some p) (hq : e.p = some q) (c : (SeqAt.shaped p && SeqAt.shaped q && (PyData.eqv p q == !b)) = true) : dNe d e = some (.bl b) := by
  rw [Bool.and_eq_true, Bool.and_eq_true, beq_iff_eq] at c
  obtain ⟨⟨c1, c2⟩, c3⟩ := c
  have e1 : d.sh = some p := by unfold D.sh; rw [hp]; exact if_pos c1
  have e2 : e.sh = some q := by unfold D.sh; rw [hq]; exact if_pos c2
  unfold dNe
  rw [e1, e2]
  show some (D.bl (!PyData.eqv p q)) = _
  rw [c3, Bool.not_not]
theorem dEq_c {d e : D} {p q : PyData} {b : Bool} (hp : d.p = some p) (hq : e.p = some q) (c : (SeqAt.shaped p && SeqAt.shaped q && (PyData.eqv p q == b)) = true) : dEq d e = some (.bl b) := by
  rw [Bool.and_eq_true, Bool.and_eq_true, beq_iff_eq] at c
  obtain ⟨⟨c1, c2⟩, c3⟩ := c
  have e1 : d.sh = some p := by unfold D.sh; rw [hp]; exact if_pos c1
  have e2 : e.sh = some q := by unfold D.sh; rw [hq]; exact if_pos c2
  unfold dEq
  rw [e1, e2]
  show some (D.bl (PyData.eqv p q)) = _
  rw [c3]
theorem ret_eq {E : M (List D)} {s : Ss} {i : Nat} {d : D} {L : List D} {κ : Kp} (h : E s.ρ (s.cell (some 2) []) = .ok L κ) (h1 : s.ρ[i]? = some (some d)) (h2 : dEq d (.lst L) = some (.bl true)) : ∃ s', bRet (some 2) [] (eBin dEq (eVar i) (eLst E)) s = .rt (.bl true) s' := by
  simp [h, h1, h2]
theorem or_2 {E6 E4 : M (List D)} {A6 A4 : M D} {L6 L4 R6 R4 l6 l4 : List D} {b : Ss → Fl} {s : Ss} {κ : Kp} {n6 n4 : Int} (h6 : E6 s.ρ κ = .ok L6 κ) (h4 : E4 s.ρ κ = .ok L4 κ) (a6 : A6 s.ρ κ = .ok (.lst l6) κ) (a4 : A4 s.ρ κ = .ok (.lst l4) κ)
    (m6 : dMul (.lst l6) (.int n6) = some (.lst R6)) (m4 : dMul (.lst l4) (.int n4) = some (.lst R4)) (e6 : dNe (.lst L6) (.lst R6) = some (.bl false)) (e4 : dNe (.lst L4) (.lst R4) = some (.bl false)) (hs : s.cell (some 2) [] = κ ∧ s.put (some 2) κ = s) :
    bIf (some 2) [] (G.tOr (tBl (eBin dNe (eLst E6) (eBin dMul A6 (eC (.int n6))))) (tBl (eBin dNe (eLst E4) (eBin dMul A4 (eC (.int n4)))))) b bNext s = .nx s := by
  obtain ⟨s1, s2⟩ := hs
  simp [s1, s2, h6, h4, a6, a4, m6, m4, e6, e4]
section
variable {ns xs : List Int} {p : Int} {x3 x4 x5 x6 x7 x8 x9 x10 x11 x12 x13 x14 x15 x16 x17 x18 x19 x20 : Option D}
theorem lb4_1 (hx : ∀ x ∈ xs, 0 ≤ x) (hp : 0 ≤ p) : ∃ d ∈ bads, lb4 (Ls ns xs p x3 x4 x5 x6 x7 x8 x9 x10 x11 x12 x13 x14 x15 x16 x17 x18 x19 x20) = .nx (Ls ns xs (p + 1) x3 x4 x5 x6 x7 x8 x9 x10 x11 x12 x13 x14 x15 x16 (some d) x18 x19 x20) := by
  obtain ⟨r, hr, o1⟩ := one_1 bads xs p (by simp [bads]) hp hx
  have sz : (9 : Nat) ≤ sizeLine := by rw [sizeLine_eq]; decide
  have sz2 : (2 : Nat) ≤ sizeLine := by rw [sizeLine_eq]; decide
  have sz1 : (1 : Nat) ≤ sizeLine := by rw [sizeLine_eq]; decide
  refine ⟨r, hr, ?_⟩
  unfold bads at o1
  unfold lb4 Ls
  simp [callK, o1, dLst, dTup, sz, sz1, sz2, Ss.put, Ss.cell, Ss.asg, wipeD]
theorem eq_rep {xs : List D} {x : D} {n : Nat} (h : ∀ d ∈ xs, d = x) (hl : xs.length = n) : xs = List.replicate n x := List.eq_replicate_iff.mpr ⟨hl, h⟩
theorem lb5_1 {d : D} (h : d ∈ bads) : lb5 (Ls ns xs p x3 x4 x5 x6 x7 x8 x9 x10 x11 x12 x13 x14 x15 x16 (some d) x18 x19 x20) = .nx (Ls ns xs p x3 x4 x5 x6 x7 x8 x9 x10 x11 x12 x13 x14 x15 x16 (some d) x18 x19 x20) := by
  obtain ⟨c1, c2, c3⟩ := bad_cel d h
  have t6 := told6 h
  have t4 := told4 h
  have sz6 : (6 : Nat) ≤ sizeLine := by rw [sizeLine_eq]; decide
  have sz4 : (4 : Nat) ≤ sizeLine := by rw [sizeLine_eq]; decide
  have cp6 : eComp [9] (tName 9) (iOf (eArgs dTup (aCons (eC (.int 1)) (aCons (eC (.int 2)) (aCons (eC (.int 3)) (aCons (eC (.int 4)) (aCons (eC (.int 5)) (aCons (eC (.int 6)) aNil)))))))) mTrue (eCall 3 d__law_told (aCons (eVar 9) (aCons (eVar 17) (aCons (eArgs dTup (aCons (eC (.int 1)) (aCons (eC (.int 2)) aNil))) aNil)))) (Ls ns xs p x3 x4 x5 x6 x7 x8 x9 x10 x11 x12 x13 x14 x15 x16 (some d) x18 x19 x20).ρ (some [.int p]) = .ok ([D.int 1, D.int 2, D.int 3, D.int 4, D.int 5, D.int 6].map fun _ => argD "one") (some [.int p]) := by
    refine comp_ok (fun _ => argD "one") ?_ sz6 fun e he => ⟨_, rfl, ?_⟩
    · simp [dTup, sz6]
    · have t := t6 e he
      have n : noCel [e, d, w12] = true := by
        simp only [List.mem_cons, List.not_mem_nil, or_false] at he
        rcases he with rfl | rfl | rfl | rfl | rfl | rfl <;> exact c2 _
      unfold Ls
      simp only [eCall_d, aCons_d, eVar_d]
      simp [wipeD, callK, t, n]
  have cp4 : eComp [9] (tName 9) (iOf (eArgs dTup (aCons (eC (.int 1)) (aCons (eC (.int 2)) (aCons (eC (.int 3)) (aCons (eC (.int 4)) aNil)))))) mTrue (eCall 3 d__law_told (aCons (eVar 9) (aCons (eArgs dTup (aCons (eC (.int 1)) (aCons (eC (.int 2)) aNil))) (aCons (eVar 17) aNil)))) (Ls ns xs p x3 x4 x5 x6 x7 x8 x9 x10 x11 x12 x13 x14 x15 x16 (some d) x18 x19 x20).ρ (some [.int p]) = .ok ([D.int 1, D.int 2, D.int 3, D.int 4].map fun _ => argD "other") (some [.int p]) := by
    refine comp_ok (fun _ => argD "other") ?_ sz4 fun e he => ⟨_, rfl, ?_⟩
    · simp [dTup, sz4]
    · have t := t4 e he
      have n : noCel [e, w12, d] = true := by
        simp only [List.mem_cons, List.not_mem_nil, or_false] at he
        rcases he with rfl | rfl | rfl | rfl <;> exact c2 _
      unfold Ls
      simp only [eCall_d, aCons_d, eVar_d]
      simp [wipeD, callK, t, n]
  have n6 : dNe (.lst ([D.int 1, D.int 2, D.int 3, D.int 4, D.int 5, D.int 6].map fun _ => argD "one")) (.lst (List.replicate 6 (argD "one"))) = some (.bl false) := dNe_c rfl rfl (by decide +kernel)
  have n4 : dNe (.lst ([D.int 1, D.int 2, D.int 3, D.int 4].map fun _ => argD "other")) (.lst (List.replicate 4 (argD "other"))) = some (.bl false) := dNe_c rfl rfl (by decide +kernel)
  have m6 : dMul (.lst [argD "one"]) (.int 6) = some (.lst (List.replicate 6 (argD "one"))) := rfl
  have m4 : dMul (.lst [argD "other"]) (.int 4) = some (.lst (List.replicate 4 (argD "other"))) := rfl
  unfold lb5
  have a6 : ∀ (x : Str) (ρ : Sd) (κ : Kp), eArgs dLst (aCons (eArgs dTup (aCons (eC (.str "argument")) (aCons (eC (.str x)) aNil))) aNil) ρ κ = .ok (.lst [argD x]) κ := by
    intro x ρ κ
    have sz1 : (1 : Nat) ≤ sizeLine := by rw [sizeLine_eq]; decide
    have sz2 : (2 : Nat) ≤ sizeLine := by rw [sizeLine_eq]; decide
    simp [dLst, dTup, sz1, sz2, argD]
  exact or_2 cp6 cp4 (a6 _ _ _) (a6 _ _ _) m6 m4 n6 n4 ⟨rfl, rfl⟩
theorem lb6_1 (hx : ∀ x ∈ xs, 0 ≤ x) (hp : 0 ≤ p) : ∃ d ∈ odds, lb6 (Ls ns xs p x3 x4 x5 x6 x7 x8 x9 x10 x11 x12 x13 x14 x15 x16 x17 x18 x19 x20) = .nx (Ls ns xs (p + 1) x3 x4 x5 x6 x7 x8 x9 x10 x11 x12 x13 x14 x15 x16 x17 (some d) x19 x20) := by
  obtain ⟨r, hr, o1⟩ := one_1 odds xs p (by simp [odds]) hp hx
  have sz : (5 : Nat) ≤ sizeLine := by rw [sizeLine_eq]; decide
  have sz2 : (2 : Nat) ≤ sizeLine := by rw [sizeLine_eq]; decide
  refine ⟨r, hr, ?_⟩
  unfold odds at o1
  unfold lb6 Ls
  simp [callK, o1, dLst, dTup, sz, sz2, Ss.put, Ss.cell, Ss.asg, wipeD]
theorem lb7_1 {d : D} (h : d ∈ odds) (hx : ∀ x ∈ xs, 0 ≤ x) (hp : 0 ≤ p) : lb7 (Ls ns xs p x3 x4 x5 x6 x7 x8 x9 x10 x11 x12 x13 x14 x15 x16 x17 (some d) x19 x20) = .nx (Ls ns xs (p + 1) x3 x4 x5 x6 x7 x8 x9 x10 x11 x12 x13 x14 x15 x16 x17 (some d) (some (.lst [argD "number", argD "other", argD "count", argD "count"])) x20) := by
  obtain ⟨c1, c2⟩ := odd_cel d h
  obtain ⟨w1, w2, w3, w4⟩ := w_odd h
  obtain ⟨r, hr, o1⟩ := one_1 [.int 0, .int (-1), d] xs p (by simp) hp hx
  obtain ⟨w5, w6⟩ := w4 r hr
  have n6 : ∀ l, noCel (r :: l) = noCel l := by
    simp only [List.mem_cons, List.not_mem_nil, or_false] at hr
    rcases hr with rfl | rfl | rfl
    · exact fun _ => rfl
    · exact fun _ => rfl
    · exact c2
  have t1 := told_2 (c := 0) c1 rfl rfl rfl w1
  have t2 := told_2 (c := 0) rfl c1 rfl rfl w2
  have t3 := told_2 (c := 5) rfl c1 rfl rfl w3
  have t4 := told_2 (c := 6) rfl w6 rfl rfl w5
  have sz4 : (4 : Nat) ≤ sizeLine := by rw [sizeLine_eq]; decide
  have sz3 : (3 : Nat) ≤ sizeLine := by rw [sizeLine_eq]; decide
  have sz2 : (2 : Nat) ≤ sizeLine := by rw [sizeLine_eq]; decide
  unfold lb7 Ls
  simp only [argD]
  simp [callK, o1, t1, t2, t3, t4, c2, n6, dLst, dTup, sz2, sz3, sz4, Ss.put, Ss.cell, Ss.asg, wipeD]
theorem lb8_1 {d : D} (h : d ∈ bads) (hx : ∀ x ∈ xs, 0 ≤ x) (hp : 0 ≤ p) : lb8 (Ls ns xs p x3 x4 x5 x6 x7 x8 x9 x10 x11 x12 x13 x14 x15 x16 (some d) x18 (some (.lst [argD "number", argD "other", argD "count", argD "count"])) x20) = .nx (Ls ns xs (p + 1) x3 x4 x5 x6 x7 x8 x9 x10 x11 x12 x13 x14 x15 x16 (some d) x18 (some (.lst [argD "number", argD "other", argD "count", argD "count", argD "row"])) x20) := by
  obtain ⟨c1, c2, c3⟩ := bad_cel d h
  obtain ⟨r, hr, o1⟩ := one_1 (rowsX d) xs p (by simp [rowsX]) hp hx
  obtain ⟨b1, b2, b3⟩ := betw_X h r hr
  have t := told_2 (c := 7) b2 rfl rfl rfl b1
  have sz6 : (6 : Nat) ≤ sizeLine := by rw [sizeLine_eq]; decide
  have sz5 : (5 : Nat) ≤ sizeLine := by rw [sizeLine_eq]; decide
  have sz2 : (2 : Nat) ≤ sizeLine := by rw [sizeLine_eq]; decide
  have sz1 : (1 : Nat) ≤ sizeLine := by rw [sizeLine_eq]; decide
  have sz0 : (0 : Nat) ≤ sizeLine := Nat.zero_le _
  have m : dMul (.tup [w11]) (.int 65) = some (.tup (List.replicate 65 w11)) := by
    have h : [w11].length * (65 : Int).toNat ≤ sizeLine := by rw [sizeLine_eq]; decide
    unfold dMul
    simp
  have n : noCel [.int 7, r, .tup [w11]] = true := b3
  unfold rowsX at o1
  generalize List.replicate 65 w11 = W at o1 m
  unfold lb8 Ls
  simp only [bAsg_d, eR_nil, eBin_d, eVar_d, eArgs_d, eCall_d, aCons_d, aNil_d, eC_d, Ss.cell]
  simp [callK, o1, t, c2, n, m, dLst, dTup, dAdd, sz0, sz1, sz2, sz5, sz6, Ss.put, Ss.asg, wipeD, argD]
theorem lb9_1 {d : D} (h : d ∈ bads) (hx : ∀ x ∈ xs, 0 ≤ x) (hp : 0 ≤ p) : lb9 (Ls ns xs p x3 x4 x5 x6 x7 x8 x9 x10 x11 x12 x13 x14 x15 x16 (some d) x18 (some (.lst [argD "number", argD "other", argD "count", argD "count", argD "row"])) x20) = .nx (Ls ns xs (p + 1) x3 x4 x5 x6 x7 x8 x9 x10 x11 x12 x13 x14 x15 x16 (some d) x18 (some (.lst [argD "number", argD "other", argD "count", argD "count", argD "row", argD "other"])) x20) := by
  obtain ⟨c1, c2, c3⟩ := bad_cel d h
  obtain ⟨r, hr, o1⟩ := one_1 (rowsY d) xs p (by simp [rowsY]) hp hx
  obtain ⟨b1, b2, b3⟩ := betw_Y h r hr
  have t := told_2 (c := 7) rfl b2 rfl rfl b1
  have sz6 : (6 : Nat) ≤ sizeLine := by rw [sizeLine_eq]; decide
  have sz3 : (3 : Nat) ≤ sizeLine := by rw [sizeLine_eq]; decide
  have sz2 : (2 : Nat) ≤ sizeLine := by rw [sizeLine_eq]; decide
  have sz1 : (1 : Nat) ≤ sizeLine := by rw [sizeLine_eq]; decide
  have n : noCel [.int 7, .tup [w11, .non], r] = true := b3
  unfold rowsY at o1
  unfold lb9 Ls
  simp only [bAsg_d, eR_nil, eBin_d, eVar_d, eArgs_d, eCall_d, aCons_d, aNil_d, eC_d, Ss.cell]
  simp [callK, o1, t, c2, n, dLst, dTup, dAdd, sz1, sz2, sz3, sz6, Ss.put, Ss.asg, wipeD, argD]
theorem lb10_1 : ∃ s, lb10 (Ls ns xs p x3 x4 x5 x6 x7 x8 x9 x10 x11 x12 x13 x14 x15 x16 x17 x18 (some (.lst [argD "number", argD "other", argD "count", argD "count", argD "row", argD "other"])) x20) = .rt (.bl true) s := by
  have sz6 : (6 : Nat) ≤ sizeLine := by rw [sizeLine_eq]; decide
  have sz2 : (2 : Nat) ≤ sizeLine := by rw [sizeLine_eq]; decide
  have cp : eComp [20] (tName 20) (iOf (eArgs dLst (aCons (eC (.str "number")) (aCons (eC (.str "other")) (aCons (eC (.str "count")) (aCons (eC (.str "count")) (aCons (eC (.str "row")) (aCons (eC (.str "other")) aNil)))))))) mTrue (eArgs dTup (aCons (eC (.str "argument")) (aCons (eVar 20) aNil))) (Ls ns xs p x3 x4 x5 x6 x7 x8 x9 x10 x11 x12 x13 x14 x15 x16 x17 x18 (some (.lst [argD "number", argD "other", argD "count", argD "count", argD "row", argD "other"])) x20).ρ (some [.int p]) = .ok ([D.str "number", D.str "other", D.str "count", D.str "count", D.str "row", D.str "other"].map fun d => .tup [.str "argument", d]) (some [.int p]) := by
    refine comp_ok (fun d => .tup [.str "argument", d]) ?_ sz6 fun e he => ⟨_, rfl, ?_⟩
    · simp [dLst, sz6]
    · simp only [List.mem_cons, List.not_mem_nil, or_false] at he
      unfold Ls
      rcases he with rfl | rfl | rfl | rfl | rfl | rfl <;> simp [wipeD, dTup, sz2]
  have e : dEq (.lst [argD "number", argD "other", argD "count", argD "count", argD "row", argD "other"]) (.lst ([D.str "number", D.str "other", D.str "count", D.str "count", D.str "row", D.str "other"].map fun d => .tup [.str "argument", d])) = some (.bl true) := dEq_c rfl rfl (by decide +kernel)
  exact ret_eq cp rfl e
end
end LW

set_option Elab.async false
set_option linter.all false
set_option maxRecDepth 100000
namespace LW
open PySem PySem.Spec PyProof.Rows L2 RZ GXS He GH G
theorem law_ok (ns : List Int) (hl : ns.length ≤ 63) : d_law [scriptD ns] none = .ok (.bl true) none := by
  have e : d_law [scriptD ns] none = endO (b_law ⟨some (scriptD ns) :: List.replicate 20 none, List.replicate 21 none⟩) := by
    show (match b_law _ with
      | .nx s' => Out.ok D.non none
      | .rt d s' => .ok d none
      | .er x s' => .er x none
      | _ => .bad) = _
    unfold endO
    rfl
  rw [e]
  clear e
  obtain ⟨xs, hx, ed⟩ := draws_1 ns
  have e1 : lb1 ⟨some (scriptD ns) :: List.replicate 20 none, List.replicate 21 none⟩ = .nx ⟨some (scriptD ns) :: some (.lst (xs.map .int)) :: List.replicate 19 none, List.replicate 21 none⟩ := by
    have n : noCel [scriptD ns] = true := rfl
    unfold lb1
    simp [Ss.cell, Ss.put, Ss.asg, wipeD, callK, ed, n, List.replicate]
  have e2 : lb2 ⟨some (scriptD ns) :: some (.lst (xs.map .int)) :: List.replicate 19 none, List.replicate 21 none⟩ = .nx (Ls ns xs 0 none none none none none none none none none none none none none none none none none none) := by
    have sz1 : (1 : Nat) ≤ sizeLine := by rw [sizeLine_eq]; decide
    unfold lb2 Ls
    simp [Ss.cell, Ss.put, Ss.own, csOk, noOwn, List.replicate, sz1]
  obtain ⟨s3, e3, p, x3, x4, x5, x6, x7, x8, x9, x10, x11, x12, x13, x14, x15, x16, x17, x18, x19, x20, hp, rfl⟩ := loop_1 (ns := ns) hx (s := Ls ns xs 0 none none none none none none none none none none none none none none none none none none) ⟨0, none, none, none, none, none, none, none, none, none, none, none, none, none, none, none, none, none, none, by decide, rfl⟩
  have e3' : lb3 (Ls ns xs 0 none none none none none none none none none none none none none none none none none none) = .nx (Ls ns xs p x3 x4 x5 x6 x7 x8 x9 x10 x11 x12 x13 x14 x15 x16 x17 x18 x19 x20) := by
    have dr : dRange1 [.int 5] = some (rangeD 0 5) := dRange_i (by decide)
    unfold lb3
    rw [← e3]
    simp [dr, Ls, Ss.cell, Ss.put]
  obtain ⟨bad, hb, e4⟩ := lb4_1 (ns := ns) (x3 := x3) (x4 := x4) (x5 := x5) (x6 := x6) (x7 := x7) (x8 := x8) (x9 := x9) (x10 := x10) (x11 := x11) (x12 := x12) (x13 := x13) (x14 := x14) (x15 := x15) (x16 := x16) (x17 := x17) (x18 := x18) (x19 := x19) (x20 := x20) hx hp
  have e5 := lb5_1 (ns := ns) (xs := xs) (p := p + 1) (x3 := x3) (x4 := x4) (x5 := x5) (x6 := x6) (x7 := x7) (x8 := x8) (x9 := x9) (x10 := x10) (x11 := x11) (x12 := x12) (x13 := x13) (x14 := x14) (x15 := x15) (x16 := x16) (x18 := x18) (x19 := x19) (x20 := x20) hb
  obtain ⟨odd, ho, e6⟩ := lb6_1 (ns := ns) (p := p + 1) (x3 := x3) (x4 := x4) (x5 := x5) (x6 := x6) (x7 := x7) (x8 := x8) (x9 := x9) (x10 := x10) (x11 := x11) (x12 := x12) (x13 := x13) (x14 := x14) (x15 := x15) (x16 := x16) (x17 := some bad) (x18 := x18) (x19 := x19) (x20 := x20) hx (by omega)
  have e7 := lb7_1 (ns := ns) (p := p + 1 + 1) (x3 := x3) (x4 := x4) (x5 := x5) (x6 := x6) (x7 := x7) (x8 := x8) (x9 := x9) (x10 := x10) (x11 := x11) (x12 := x12) (x13 := x13) (x14 := x14) (x15 := x15) (x16 := x16) (x17 := some bad) (x19 := x19) (x20 := x20) ho hx (by omega)
  have e8 := lb8_1 (ns := ns) (p := p + 1 + 1 + 1) (x3 := x3) (x4 := x4) (x5 := x5) (x6 := x6) (x7 := x7) (x8 := x8) (x9 := x9) (x10 := x10) (x11 := x11) (x12 := x12) (x13 := x13) (x14 := x14) (x15 := x15) (x16 := x16) (x18 := some odd) (x20 := x20) hb hx (by omega)
  have e9 := lb9_1 (ns := ns) (p := p + 1 + 1 + 1 + 1) (x3 := x3) (x4 := x4) (x5 := x5) (x6 := x6) (x7 := x7) (x8 := x8) (x9 := x9) (x10 := x10) (x11 := x11) (x12 := x12) (x13 := x13) (x14 := x14) (x15 := x15) (x16 := x16) (x18 := some odd) (x20 := x20) hb hx (by omega)
  obtain ⟨s, e10⟩ := lb10_1 (ns := ns) (xs := xs) (p := p + 1 + 1 + 1 + 1 + 1) (x3 := x3) (x4 := x4) (x5 := x5) (x6 := x6) (x7 := x7) (x8 := x8) (x9 := x9) (x10 := x10) (x11 := x11) (x12 := x12) (x13 := x13) (x14 := x14) (x15 := x15) (x16 := x16) (x17 := some bad) (x18 := some odd) (x20 := x20)
  have eb : b_law ⟨some (scriptD ns) :: List.replicate 20 none, List.replicate 21 none⟩ = .rt (.bl true) s := by
    rw [lb_split]
    exact (seq_nx e1).trans ((seq_nx e2).trans ((seq_nx e3').trans ((seq_nx e4).trans ((seq_nx e5).trans ((seq_nx e6).trans ((seq_nx e7).trans ((seq_nx e8).trans ((seq_nx e9).trans e10))))))))
  rw [eb]
  rfl
end LW

namespace LW
open PySem PySem.Spec PyProof.Rows L2 RZ GXS He GH G
abbrev RR : PySem.W.OpenRow := PySem.W.OpenLaw.row PySem.Challenge.rw_greatersum_k30_whole_weights
abbrev hk : PySem.W.Hook := hookS PySem.Challenge.rw_greatersum_k30_whole_weights.prog 5 fa fn fx fi
def ob (s : PySem.W.SharedT) : AlS := obsSG PySem.Challenge.rw_greatersum_k30_whole_weights.prog 5 fa fn fx fi (HandSHeadRun.getT s)
theorem ob_eq (s : PySem.W.SharedT) : ob s = hk.obs s.abs := obsSG_eq (HandSHeadRun.getT_eq s)
def loose : List PySem.Str := ([PySem.Str.ofString "is_integer", PySem.Str.ofString "in_range", PySem.Str.ofString "common", PySem.Str.ofString "MeasureError", PySem.Str.ofString "ReasonError", PySem.Str.ofString "ArgumentError", PySem.Str.ofString "MAX_NUMBER", PySem.Str.ofString "ZERO", PySem.Str.ofString "is_fraction", PySem.Str.ofString "is_small", PySem.Str.ofString "is_small_weight", PySem.Str.ofString "demand_weight", PySem.Str.ofString "made", PySem.Str.ofString "added", PySem.Str.ofString "negated", PySem.Str.ofString "scaled", PySem.Str.ofString "order", PySem.Str.ofString "greater", PySem.Str.ofString "joined", PySem.Str.ofString "less"] : List PySem.Str) ++ ([PySem.Str.ofString "weight", PySem.Str.ofString "demand_two", PySem.Str.ofString "plus", PySem.Str.ofString "times", PySem.Str.ofString "over", PySem.Str.ofString "compare", PySem.Str.ofString "raised", PySem.Str.ofString "root", PySem.Str.ofString "is_row", PySem.Str.ofString "demand_row", PySem.Str.ofString "shift_of", PySem.Str.ofString "shift_between", PySem.Str.ofString "_law_draws", PySem.Str.ofString "_law_more", PySem.Str.ofString "_law_take", PySem.Str.ofString "_law_one", PySem.Str.ofString "_law_common", PySem.Str.ofString "_law_made", PySem.Str.ofString "_law_plus", PySem.Str.ofString "_law_scaled"] : List PySem.Str) ++ ([PySem.Str.ofString "_law_back", PySem.Str.ofString "_law_less", PySem.Str.ofString "_law_order", PySem.Str.ofString "_law_most", PySem.Str.ofString "_law_weight", PySem.Str.ofString "_law_told", PySem.Str.ofString "_law_whole", PySem.Str.ofString "_law_any", PySem.Str.ofString "_law_shift"] : List PySem.Str)
set_option maxHeartbeats 0
theorem run (w : World) : HandSHeadRun.RunEq RR (PySem.W.view RR.prog [53]) hk ob 20000 loose w := by
  intro os
  kernel_rfl
end LW
open PySem PySem.W PySem.Calls PyProof.Rows
set_option maxHeartbeats 0
theorem PySem.Challenge.cw_greatersum_k30_whole_weights_holds : PySem.Challenge.rw_greatersum_k30_whole_weights.Holds := by
  w_on; o_law
  refine HandSHeadRun.head_any (r := OpenLaw.row PySem.Challenge.rw_greatersum_k30_whole_weights) (q := view (OpenLaw.row PySem.Challenge.rw_greatersum_k30_whole_weights).prog [53]) (H := LW.hk) (ob := LW.ob) (M := 20000) (loose := LW.loose) (d := HandSHeadRun.topDef (OpenLaw.row PySem.Challenge.rw_greatersum_k30_whole_weights).prog 53) (kwd := []) LW.ob_eq
    (by kernel_rfl) (fun s => by kernel_rfl) LW.run (by kernel_rfl) (by kernel_rfl) (by kernel_rfl) (by rfl) (by first | assumption | decide +kernel) (by decide +kernel) ⟨rfl, rfl, rfl, rfl, rfl, by decide +kernel⟩ ?hw ?hc
  case hw => w_witness2
  case hc =>
    refine G.walkG (l := PySem.Challenge.rw_greatersum_k30_whole_weights) (n := 63) (k := 9) (g := LW.d_law) rfl (by decide) (by kernel_rfl) ⟨rfl, by decide, by decide⟩ ?F LW.law_ok
    intro w mg fa h Y N hmg0
    obtain ⟨K, KX, c⟩ := Y
    have en : (HandSHeadRun.topDef (OpenLaw.row PySem.Challenge.rw_greatersum_k30_whole_weights).prog 53).name = ("law" : PySem.Str) := by kernel_rfl
    have I : ∀ base, G.InA ⟨(PySem.Challenge.rw_greatersum_k30_whole_weights).prog, w, K, mg, base⟩ LW.fa LW.fn LW.fx LW.fi := fun base => ⟨h, KX, N, c⟩
    rw [en] at hmg0 ⊢
    have e := hmg0.symm.trans ((I h).glo 59 (x := "law") rfl)
    exact ⟨K, KX, Value.ref.inj (Option.some.inj e), fun base _ _ => LW.H_law (I base)⟩
