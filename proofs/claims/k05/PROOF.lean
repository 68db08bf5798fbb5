import PyProof.Rows.All
import Wide.All
import OpenK.AllK
import Wide.FinOn
import HandS.ForMost
import HandS.Evl
import HandS.Exc
import HandS.ExcInit
import HandS.TupAny
import HandS.TupMul
import HandS.IsInst
import HandS.SortInts
import HandS.Wide
import HandS.Rev
import HandS.Zip
import HandS.Style
import KE.GoesEnum
import PyProof.ReprRoads
import HandS.Defaults
import HandS.Flow
import HandS.WordsExc
import KE.KSuper
import KE.KExcSuper
import HandS.ExcField
import HandS.ClsMeth
import PySem.Challenge.RW_poleheaps_k05_prime_polynomials
set_option Elab.async false
set_option linter.all false
set_option maxRecDepth 100000
set_option maxHeartbeats 4000000
/-! Part A: values without a heap, what they stand for, states of slots, judgements. -/
namespace Q4
open PySem PySem.Spec PyProof.Rows L2 Evl

/-! ### data -/
inductive D where
  | non | bl (b : Bool) | int (i : Int) | str (s : Str) | lst (ds : List D) | tup (ds : List D) | ins (C : Addr) (ns : List Str) (ds : List D) | scr (ns : List Int)
  deriving Inhabited

mutual
inductive DP (K : PySem.W.Frag) (H : Hp) : V → D → Prop
  | non : DP K H .non .non
  | bl (b : Bool) : DP K H (.bl b) (.bl b)
  | int (i : Int) : DP K H (.int i) (.int i)
  | str (x : Str) : DP K H (.str x) (.str x)
  | lst {a : Addr} {xs : List V} {ds : List D} : H a = some (.lst xs) → DPs K H xs ds → DP K H (.ref a) (.lst ds)
  | tup {a : Addr} {xs : List V} {ds : List D} : SqT K H a xs → DPs K H xs ds → DP K H (.ref a) (.tup ds)
  | ins {a C dx : Addr} {fs : List (Str × V)} {ns : List Str} {ds : List D} : H a = some (.ins C dx fs) → H dx = some (.own a) → fs.map (·.1) = ns → DPs K H (fs.map (·.2)) ds → DP K H (.ref a) (.ins C ns ds)
  /-- the script -/
  | scr {a : Addr} {ns : List Int} : SqL K H a (ns.map V.int) → DP K H (.ref a) (.scr ns)
inductive DPs (K : PySem.W.Frag) (H : Hp) : List V → List D → Prop
  | nil : DPs K H [] []
  | cons {v : V} {vs : List V} {d : D} {ds : List D} : DP K H v d → DPs K H vs ds → DPs K H (v :: vs) (d :: ds)
end
section
variable {K : PySem.W.Frag} {H H' : Hp}
mutual
theorem DP.mono (e : Ex H H') : ∀ {v : V} {d : D}, DP K H v d → DP K H' v d
  | _, _, .non => .non
  | _, _, .bl b => .bl b
  | _, _, .int i => .int i
  | _, _, .str x => .str x
  | _, _, .lst h hs => .lst (e _ _ h) (DPs.mono e hs)
  | _, _, .tup h hs => .tup (ex_t e h) (DPs.mono e hs)
  | _, _, .ins h h2 hn hs => .ins (e _ _ h) (e _ _ h2) hn (DPs.mono e hs)
  | _, _, .scr h => .scr (ex_l e h)
theorem DPs.mono (e : Ex H H') : ∀ {vs : List V} {ds : List D}, DPs K H vs ds → DPs K H' vs ds
  | _, _, .nil => .nil
  | _, _, .cons h hs => .cons (DP.mono e h) (DPs.mono e hs)
end
theorem DPs.length : ∀ {vs : List V} {ds : List D}, DPs K H vs ds → vs.length = ds.length
  | _, _, .nil => rfl
  | _, _, .cons _ hs => congrArg Nat.succ (DPs.length hs)
theorem DPs.get : ∀ {vs : List V} {ds : List D} {i : Nat} {d : D}, DPs K H vs ds → ds[i]? = some d → ∃ v, vs[i]? = some v ∧ DP K H v d
  | _, _, _, _, .nil, e => by simp at e
  | _, _, 0, _, .cons h _, e => by
    have e' := Option.some.inj e
    subst e'
    exact ⟨_, rfl, h⟩
  | _, _, i + 1, _, .cons _ hs, e => DPs.get (i := i) hs e
theorem DPs.append : ∀ {vs ws : List V} {ds es : List D}, DPs K H vs ds → DPs K H ws es → DPs K H (vs ++ ws) (ds ++ es)
  | _, _, _, _, .nil, q => q
  | _, _, _, _, .cons h hs, q => .cons h (DPs.append hs q)
theorem DPs.one {v : V} {d : D} (h : DP K H v d) : DPs K H [v] [d] := .cons h .nil
theorem DPs.set {x : V} {d : D} (h : DP K H x d) : ∀ {vs : List V} {ds : List D} (i : Nat), DPs K H vs ds → DPs K H (vs.set i x) (ds.set i d)
  | _, _, _, .nil => .nil
  | _, _, 0, .cons _ hs => .cons h hs
  | _, _, i + 1, .cons q hs => .cons q (DPs.set h i hs)
theorem DPs.take : ∀ {vs : List V} {ds : List D} (n : Nat), DPs K H vs ds → DPs K H (vs.take n) (ds.take n)
  | _, _, 0, _ => .nil
  | _, _, _ + 1, .nil => .nil
  | _, _, n + 1, .cons q hs => .cons q (DPs.take n hs)
theorem DPs.drop : ∀ {vs : List V} {ds : List D} (n : Nat), DPs K H vs ds → DPs K H (vs.drop n) (ds.drop n)
  | _, _, 0, h => h
  | _, _, _ + 1, .nil => .nil
  | _, _, n + 1, .cons _ hs => DPs.drop n hs
theorem DPs.dropLast : ∀ {vs : List V} {ds : List D}, DPs K H vs ds → DPs K H vs.dropLast ds.dropLast
  | _, _, .nil => .nil
  | _, _, .cons _ .nil => .nil
  | _, _, .cons h (.cons h2 hs) => .cons h (DPs.dropLast (.cons h2 hs))
theorem DPs.reverse : ∀ {vs : List V} {ds : List D}, DPs K H vs ds → DPs K H vs.reverse ds.reverse
  | _, _, .nil => .nil
  | _, _, .cons h hs => by
    rw [List.reverse_cons, List.reverse_cons]
    exact DPs.append (DPs.reverse hs) (.one h)
theorem DPs.rep {vs : List V} {ds : List D} (h : DPs K H vs ds) : ∀ n : Nat, DPs K H (List.replicate n vs).flatten (List.replicate n ds).flatten
  | 0 => .nil
  | n + 1 => by
    rw [List.replicate_succ, List.replicate_succ, List.flatten_cons, List.flatten_cons]
    exact h.append (DPs.rep h n)
theorem DPs.ints : ∀ {vs : List V} {ns : List Int}, DPs K H vs (ns.map D.int) → vs = ns.map V.int
  | _, [], .nil => rfl
  | _, n :: ns, .cons h hs => by
    cases h
    exact congrArg (V.int n :: ·) (DPs.ints hs)
theorem DPs.of_ints : ∀ (ns : List Int), DPs K H (ns.map V.int) (ns.map D.int)
  | [] => .nil
  | n :: ns => .cons (.int n) (DPs.of_ints ns)
theorem DPs.bls : ∀ {vs : List V} {ns : List Bool}, DPs K H vs (ns.map D.bl) → vs = ns.map V.bl
  | _, [], .nil => rfl
  | _, n :: ns, .cons h hs => by
    cases h
    exact congrArg (V.bl n :: ·) (DPs.bls hs)
end

/-! ### states of the slots; outcomes -/
inductive SV where
  | no | fz (d : D) | ow (ds : List D)
  deriving Inhabited
abbrev SS := List SV
inductive Rs (α : Type) where
  | ok (a : α) (S : SS) | err (c : Str) (pl : D) (S : SS) | bad
abbrev M (α : Type) := SS → Rs α
def Rs.bind {α β : Type} (r : Rs α) (k : α → SS → Rs β) : Rs β := match r with
  | .ok a S => k a S
  | .err c pl S => .err c pl S
  | .bad => .bad
@[simp] theorem Rs.bind_ok {α β : Type} (a : α) (S : SS) (k : α → SS → Rs β) : (Rs.ok a S).bind k = k a S := rfl
@[simp] theorem Rs.bind_err {α β : Type} (c : Str) (pl : D) (S : SS) (k : α → SS → Rs β) : (Rs.err c pl S).bind k = .err c pl S := rfl
@[simp] theorem Rs.bind_bad {α β : Type} (k : α → SS → Rs β) : (Rs.bad : Rs α).bind k = .bad := rfl
def Rs.lift {α : Type} (o : Option α) (S : SS) : Rs α := match o with
  | some a => .ok a S
  | none => .bad
@[simp] theorem Rs.lift_some {α : Type} (a : α) (S : SS) : Rs.lift (some a) S = .ok a S := rfl
@[simp] theorem Rs.lift_none {α : Type} (S : SS) : Rs.lift (none : Option α) S = .bad := rfl

/-- where a def's run began: the frozen heap, the heap, the parameters that may be changed -/
structure Bs where
  G : Hp
  H : Hp
  M : List (Nat × Addr)

def SlotOk (K : PySem.W.Frag) (B : Bs) (G H : Hp) (i : Nat) (σ : L2.St) : SV → Prop
  | .no => True
  | .fz d => ∃ v, σ[i]? = some (some v) ∧ DP K G v d
  | .ow ds => ∃ l vs, σ[i]? = some (some (.ref l)) ∧ H l = some (.lst vs) ∧ DPs K G vs ds ∧ G l = none ∧ (B.H l = none ∨ (i, l) ∈ B.M)
structure Rel (K : PySem.W.Frag) (B : Bs) (G H : Hp) (σ : L2.St) (S : SS) : Prop where
  gh : Ex G H
  gg : Ex B.G G
  fr : ∀ a, G a ≠ none → B.G a ≠ none ∨ B.H a = none ∨ ∃ m ∈ B.M, m.2 = a
  kp : ∀ a o, B.H a = some o → (∀ m ∈ B.M, m.2 ≠ a) → H a = some o
  ln : σ.length = S.length
  sl : ∀ (i : Nat) (s : SV), S[i]? = some s → SlotOk K B G H i σ s
  ds : ∀ (i j : Nat) (xs ys : List D), i ≠ j → S[i]? = some (SV.ow xs) → S[j]? = some (SV.ow ys) → σ[i]? ≠ σ[j]?
  mm : ∀ m ∈ B.M, σ[m.1]? = some (some (.ref m.2))
  mh : ∀ m ∈ B.M, ∃ o, H m.2 = some o

/-- at most one new object, laid and frozen -/
def Alc (G H G' H' : Hp) : Prop := (G' = G ∧ H' = H) ∨ ∃ p o, H p = none ∧ G' = upd G p o ∧ H' = upd H p o
section
variable {K : PySem.W.Frag} {B : Bs} {G H G' H' : Hp} {σ : L2.St} {S : SS}
theorem Alc.refl : Alc G H G H := .inl ⟨rfl, rfl⟩
theorem Alc.ex (g : Ex G H) (a : Alc G H G' H') : Ex G G' := by
  rcases a with ⟨rfl, rfl⟩ | ⟨p, o, hp, rfl, rfl⟩
  · exact Ex.refl _
  · exact Ex.new (fresh_back g hp)
theorem SlotOk.up {i : Nat} {s : SV} (h : SlotOk K B G H i σ s) (eg : Ex G G') (eh : ∀ l vs, H l = some (.lst vs) → G l = none → H' l = some (.lst vs) ∧ G' l = none) : SlotOk K B G' H' i σ s := by
  cases s with
  | no => trivial
  | fz d =>
    obtain ⟨v, h1, h2⟩ := h
    exact ⟨v, h1, h2.mono eg⟩
  | ow ds =>
    obtain ⟨l, vs, h1, h2, h3, h4, h5⟩ := h
    exact ⟨l, vs, h1, (eh l vs h2 h4).1, h3.mono eg, (eh l vs h2 h4).2, h5⟩
theorem Rel.alc (R : Rel K B G H σ S) (a : Alc G H G' H') : Rel K B G' H' σ S := by
  rcases a with ⟨rfl, rfl⟩ | ⟨p, o, hp, rfl, rfl⟩
  · exact R
  have gp : G p = none := fresh_back R.gh hp
  have eg : Ex G (upd G p o) := Ex.new gp
  refine ⟨fun a u h => ?_, R.gg.trans eg, fun a h => ?_, fun a u h hm => ?_, R.ln, fun i s h => (R.sl i s h).up eg fun l vs h1 h2 => ?_, R.ds, R.mm, fun m hm => ?_⟩
  · by_cases e : a = p
    · subst e
      rw [upd_same] at h ⊢
      exact h
    · rw [upd_ne e] at h ⊢
      exact R.gh a u h
  · by_cases e : a = p
    · subst e
      cases q : B.H a with
      | none => exact .inr (.inl rfl)
      | some u =>
        refine .inr (.inr ?_)
        by_cases z : ∃ m ∈ B.M, m.2 = a
        · exact z
        · have := R.kp a u q fun m hm e => z ⟨m, hm, e⟩
          rw [hp] at this
          cases this
    · rw [upd_ne e] at h
      exact R.fr a h
  · have := R.kp a u h hm
    rw [upd_ne (ne_of_none this hp)]
    exact this
  · have e := ne_of_none h1 hp
    rw [upd_ne e, upd_ne e]
    exact ⟨h1, h2⟩
  · obtain ⟨u, hu⟩ := R.mh m hm
    rw [upd_ne (ne_of_none hu hp)]
    exact ⟨u, hu⟩
/-- a new object that stays loose -/
theorem Rel.loose {p : Addr} {o : HO} (R : Rel K B G H σ S) (hp : H p = none) : Rel K B G (upd H p o) σ S := by
  refine ⟨R.gh.trans (Ex.new hp), R.gg, R.fr, fun a u h hm => ?_, R.ln, fun i s h => (R.sl i s h).up (Ex.refl _) fun l vs h1 h2 => ?_, R.ds, R.mm, fun m hm => ?_⟩
  · have := R.kp a u h hm
    rw [upd_ne (ne_of_none this hp)]
    exact this
  · rw [upd_ne (ne_of_none h1 hp)]
    exact ⟨h1, h2⟩
  · obtain ⟨u, hu⟩ := R.mh m hm
    rw [upd_ne (ne_of_none hu hp)]
    exact ⟨u, hu⟩
theorem Rel.noB {p : Addr} (R : Rel K B G H σ S) (hp : H p = none) : B.H p = none := by
  cases q : B.H p with
  | none => rfl
  | some u =>
    by_cases z : ∃ m ∈ B.M, m.2 = p
    · obtain ⟨m, hm, e⟩ := z
      obtain ⟨o, ho⟩ := R.mh m hm
      rw [e, hp] at ho
      cases ho
    · have := R.kp p u q fun m hm e => z ⟨m, hm, e⟩
      rw [hp] at this
      cases this
theorem Rel.noS {p : Addr} (R : Rel K B G H σ S) (hp : H p = none) : ∀ (i : Nat) (xs : List D), S[i]? = some (SV.ow xs) → σ[i]? ≠ some (some (V.ref p)) := fun i xs h e => by
  obtain ⟨l, vs, h1, h2, _⟩ := R.sl i _ h
  rw [e] at h1
  cases h1
  rw [hp] at h2
  cases h2
/-- a loose object is frozen -/
theorem Rel.freeze {p : Addr} {o : HO} (R : Rel K B G H σ S) (hp : H p = some o) (gp : G p = none) (bp : B.H p = none ∨ ∃ m ∈ B.M, m.2 = p) (ns : ∀ (i : Nat) (xs : List D), S[i]? = some (SV.ow xs) → σ[i]? ≠ some (some (.ref p))) : Rel K B (upd G p o) H σ S := by
  refine ⟨fun a u h => ?_, R.gg.trans (Ex.new gp), fun a h => ?_, R.kp, R.ln, fun i s h => ?_, R.ds, R.mm, R.mh⟩
  · by_cases e : a = p
    · subst e
      rw [upd_same] at h
      rw [hp]
      exact h
    · rw [upd_ne e] at h
      exact R.gh a u h
  · by_cases e : a = p
    · subst e
      exact .inr bp
    · rw [upd_ne e] at h
      exact R.fr a h
  · have q := R.sl i s h
    cases s with
    | no => trivial
    | fz d =>
      obtain ⟨v, h1, h2⟩ := q
      exact ⟨v, h1, h2.mono (Ex.new gp)⟩
    | ow ds =>
      obtain ⟨l, vs, h1, h2, h3, h4, h5⟩ := q
      refine ⟨l, vs, h1, h2, h3.mono (Ex.new gp), ?_, h5⟩
      have : l ≠ p := fun e => ns i ds h (by rw [h1, e])
      rw [upd_ne this]
      exact h4
end

/-- a raised error of the program: its class by name, what it holds -/
def ErrAt (mg : Str → Option Value) (K : PySem.W.Frag) (G H : Hp) (c : Str) (pl : D) (cls : Value) (dd : Addr) : Prop :=
  ∃ (C : Addr) (fs : List (Str × V)) (v : V), mg c = some (.ref C) ∧ cls = .ref C ∧ H dd = some (.xd fs) ∧ fs.lookup ("place" : Str) = some v ∧ fs.lookup ("word" : Str) = some (V.str c) ∧ DP K G v pl

section
variable (K : PySem.W.Frag) (mg : Str → Option Value) (B : Bs) (W : WX) (σ : L2.St) (G : Hp)
/-- what is owed for an outcome: of a value, of a truth, of several values -/
def PoE (r : Rs D) (Q : VK) : Prop := match r with
  | .ok d S' => ∀ v G' H', Ex G G' → Rel K B G' H' σ S' → DP K G' v d → Q v H'
  | .err c pl S' => ∀ cls dd G' H', Ex G G' → Rel K B G' H' σ S' → ErrAt mg K G' H' c pl cls dd → W cls (some dd) σ H'
  | .bad => False
def PoT (r : Rs Bool) (Q : Bool → Hp → Prop) : Prop := match r with
  | .ok b S' => ∀ G' H', Ex G G' → Rel K B G' H' σ S' → Q b H'
  | .err c pl S' => ∀ cls dd G' H', Ex G G' → Rel K B G' H' σ S' → ErrAt mg K G' H' c pl cls dd → W cls (some dd) σ H'
  | .bad => False
def PoA (r : Rs (List D)) (Q : List V → Hp → Prop) : Prop := match r with
  | .ok ds S' => ∀ vs G' H', Ex G G' → Rel K B G' H' σ S' → DPs K G' vs ds → Q vs H'
  | .err c pl S' => ∀ cls dd G' H', Ex G G' → Rel K B G' H' σ S' → ErrAt mg K G' H' c pl cls dd → W cls (some dd) σ H'
  | .bad => False
/-- a new list, loose -/
def PoL (r : Rs (List D)) (Q : VK) : Prop := match r with
  | .ok ds S' => ∀ p vs G' H', Ex G G' → Rel K B G' H' σ S' → H' p = some (.lst vs) → DPs K G' vs ds → G' p = none → B.H p = none → (∀ (i : Nat) (xs : List D), S'[i]? = some (SV.ow xs) → σ[i]? ≠ some (some (.ref p))) → Q (.ref p) H'
  | .err c pl S' => ∀ cls dd G' H', Ex G G' → Rel K B G' H' σ S' → ErrAt mg K G' H' c pl cls dd → W cls (some dd) σ H'
  | .bad => False
end
section
variable {K : PySem.W.Frag} {mg : Str → Option Value} {B : Bs} {W : WX} {σ : L2.St} {G G' : Hp} {Q : VK}
theorem PoE.mono (e : Ex G G') {r : Rs D} (h : PoE K mg B W σ G r Q) : PoE K mg B W σ G' r Q := by
  cases r with
  | ok d S => exact fun v G2 H2 e2 => h v G2 H2 (e.trans e2)
  | err c pl S => exact fun cls dd G2 H2 e2 => h cls dd G2 H2 (e.trans e2)
  | bad => exact h
theorem PoT.mono {Q : Bool → Hp → Prop} (e : Ex G G') {r : Rs Bool} (h : PoT K mg B W σ G r Q) : PoT K mg B W σ G' r Q := by
  cases r with
  | ok d S => exact fun G2 H2 e2 => h G2 H2 (e.trans e2)
  | err c pl S => exact fun cls dd G2 H2 e2 => h cls dd G2 H2 (e.trans e2)
  | bad => exact h
theorem PoA.mono {Q : List V → Hp → Prop} (e : Ex G G') {r : Rs (List D)} (h : PoA K mg B W σ G r Q) : PoA K mg B W σ G' r Q := by
  cases r with
  | ok d S => exact fun v G2 H2 e2 => h v G2 H2 (e.trans e2)
  | err c pl S => exact fun cls dd G2 H2 e2 => h cls dd G2 H2 (e.trans e2)
  | bad => exact h
theorem PoL.mono (e : Ex G G') {r : Rs (List D)} (h : PoL K mg B W σ G r Q) : PoL K mg B W σ G' r Q := by
  cases r with
  | ok d S => exact fun p v G2 H2 e2 => h p v G2 H2 (e.trans e2)
  | err c pl S => exact fun cls dd G2 H2 e2 => h cls dd G2 H2 (e.trans e2)
  | bad => exact h
end

/-! ### the judgements -/
def GE (X : Cx) (W : WX) (e : Expr) (m : M D) : Prop :=
  ∃ t : TE, PE X e t ∧ ∀ B G H σ S Q, Rel X.K B G H σ S → PoE X.K X.mg B W σ G (m S) Q → t σ H Q
def GL (X : Cx) (W : WX) (e : Expr) (m : M (List D)) : Prop :=
  ∃ t : TE, PE X e t ∧ ∀ B G H σ S Q, Rel X.K B G H σ S → PoL X.K X.mg B W σ G (m S) Q → t σ H Q
def GT (X : Cx) (W : WX) (e : Expr) (m : M Bool) : Prop :=
  ∃ t : TT, PT X e t ∧ ∀ B G H σ S Q, Rel X.K B G H σ S → PoT X.K X.mg B W σ G (m S) Q → t σ H Q
def GW (X : Cx) (W : WX) (e : Expr) (m : M Bool) : Prop :=
  ∃ t : TT, PW X e t ∧ ∀ B G H σ S Q, Rel X.K B G H σ S → PoT X.K X.mg B W σ G (m S) Q → t σ H Q
def GA (X : Cx) (W : WX) (es : List Expr) (m : M (List D)) : Prop :=
  ∃ t : TA, PA X es t ∧ ∀ B G H σ S Q, Rel X.K B G H σ S → PoA X.K X.mg B W σ G (m S) Q → t σ H Q

/-! ### names and constants -/
def mVar (i : Nat) : M D := fun S => match S[i]? with
  | some (.fz d) => .ok d S
  | some (SV.ow ds) => .ok (.lst ds) (S.set i (.fz (.lst ds)))
  | _ => .bad
def mC (d : D) : M D := fun S => .ok d S
section
variable {X : Cx} {W : WX} {K : PySem.W.Frag} {B : Bs} {G H : Hp} {σ : L2.St} {S : SS}
/-- an owned slot's list is frozen -/
theorem Rel.slotFreeze {i : Nat} {ds : List D} {l : Addr} {vs : List V} (R : Rel K B G H σ S) (hs : S[i]? = some (SV.ow ds)) (hσ : σ[i]? = some (some (.ref l))) (hl : H l = some (.lst vs)) :
    Rel K B (upd G l (.lst vs)) H σ (S.set i (.fz (.lst ds))) ∧ DP K (upd G l (.lst vs)) (.ref l) (.lst ds) ∧ Ex G (upd G l (.lst vs)) := by
  obtain ⟨l', vs', h1, h2, h3, h4, h5⟩ := R.sl i _ hs
  rw [hσ] at h1
  cases h1
  rw [hl] at h2
  cases h2
  have hi : i < S.length := (List.getElem?_eq_some_iff.mp hs).1
  have eg : Ex G (upd G l (.lst vs)) := Ex.new h4
  have dp : DP K (upd G l (.lst vs)) (.ref l) (.lst ds) := .lst upd_same (h3.mono eg)
  refine ⟨⟨fun a u h => ?_, R.gg.trans eg, fun a h => ?_, R.kp, by rw [List.length_set]; exact R.ln, fun j s h => ?_, fun j k xs ys hjk hj hk => ?_, R.mm, R.mh⟩, dp, eg⟩
  · by_cases e : a = l
    · subst e
      rw [upd_same] at h
      rw [hl]
      exact h
    · rw [upd_ne e] at h
      exact R.gh a u h
  · by_cases e : a = l
    · subst e
      rcases h5 with q | q
      · exact .inr (.inl q)
      · exact .inr (.inr ⟨_, q, rfl⟩)
    · rw [upd_ne e] at h
      exact R.fr a h
  · by_cases e : j = i
    · subst e
      rw [List.getElem?_set_self hi] at h
      cases h
      exact ⟨_, hσ, dp⟩
    · rw [List.getElem?_set_ne (Ne.symm e)] at h
      have q := R.sl j s h
      cases s with
      | no => trivial
      | fz d =>
        obtain ⟨v, q1, q2⟩ := q
        exact ⟨v, q1, q2.mono eg⟩
      | ow es =>
        obtain ⟨l2, vs2, q1, q2, q3, q4, q5⟩ := q
        refine ⟨l2, vs2, q1, q2, q3.mono eg, ?_, q5⟩
        have : l2 ≠ l := fun z => R.ds j i es ds e h hs (by rw [q1, hσ, z])
        rw [upd_ne this]
        exact q4
  · have nj : j ≠ i := fun z => by
      subst z
      rw [List.getElem?_set_self hi] at hj
      cases hj
    have nk : k ≠ i := fun z => by
      subst z
      rw [List.getElem?_set_self hi] at hk
      cases hk
    rw [List.getElem?_set_ne (Ne.symm nj)] at hj
    rw [List.getElem?_set_ne (Ne.symm nk)] at hk
    exact R.ds j k xs ys hjk hj hk
theorem ge_var (i : Nat) {x : Str} {pos : Pos} (hN : X.N[i]? = some x := by rfl) (hv : Vis X.env.scope x := by first | exact Or.inl rfl | exact Or.inr (Or.inl rfl) | exact Or.inr (Or.inr rfl)) (hd : (x == ("__debug__" : Str)) = false := by decide)
    (hcd : (x == ("__classdict__" : Str)) = false := by decide) : GE X W (.Name x pos) (mVar i) := by
  refine ⟨tVar i, pe_var hN hv hd hcd, fun B G H σ S Q R h => ?_⟩
  unfold mVar at h
  cases hs : S[i]? with
  | none =>
    rw [hs] at h
    exact h.elim
  | some s =>
    rw [hs] at h
    cases s with
    | no => exact h.elim
    | fz d =>
      obtain ⟨v, h1, h2⟩ := R.sl i _ hs
      exact ⟨v, h1, h v G H (Ex.refl _) R h2⟩
    | ow ds =>
      obtain ⟨l, vs, h1, h2, h3, h4, h5⟩ := R.sl i _ hs
      obtain ⟨R', dp, eg⟩ := R.slotFreeze hs h1 h2
      exact ⟨_, h1, h _ _ _ eg R' dp⟩
theorem ge_int {i : Int} {j} {pos : Pos} : GE X W (.Constant (.int i) j pos) (mC (.int i)) := ⟨_, pe_int, fun B G H σ S Q R h => h _ G H (Ex.refl _) R (.int i)⟩
theorem ge_bl {b : Bool} {j} {pos : Pos} : GE X W (.Constant (.bool b) j pos) (mC (.bl b)) := ⟨_, pe_bl, fun B G H σ S Q R h => h _ G H (Ex.refl _) R (.bl b)⟩
theorem ge_non {j} {pos : Pos} : GE X W (.Constant .none j pos) (mC .non) := ⟨_, pe_non, fun B G H σ S Q R h => h _ G H (Ex.refl _) R .non⟩
theorem ge_str {x} {j} {pos : Pos} : GE X W (.Constant (.str x) j pos) (mC (.str x)) := ⟨_, pe_str, fun B G H σ S Q R h => h _ G H (Ex.refl _) R (.str _)⟩
end

/-! ### operators by values -/
/-- an operation's rule tells the value that f tells -/
def OpD (K : PySem.W.Frag) (r : R2) (f : D → D → Option D) : Prop :=
  ∀ (x y : V) (a b d : D) (G H : Hp) (Q : VK), f a b = some d → DP K G x a → DP K G y b → Ex G H → (∀ v G' H', Alc G H G' H' → DP K G' v d → Q v H') → r x y H Q
def mBin (f : D → D → Option D) (ma mb : M D) : M D := fun S => (ma S).bind fun a S1 => (mb S1).bind fun b S2 => Rs.lift (f a b) S2
section
variable {X : Cx} {W : WX} {a b : Expr} {ma mb : M D} {pos : Pos} {r : R2} {f : D → D → Option D}
theorem bin_out {ta tb : TE} (ha : ∀ B G H σ S Q, Rel X.K B G H σ S → PoE X.K X.mg B W σ G (ma S) Q → ta σ H Q) (hb : ∀ B G H σ S Q, Rel X.K B G H σ S → PoE X.K X.mg B W σ G (mb S) Q → tb σ H Q) (ho : OpD X.K r f) :
    ∀ B G H σ S Q, Rel X.K B G H σ S → PoE X.K X.mg B W σ G (mBin f ma mb S) Q → tOp r ta tb σ H Q := fun B G H σ S Q R h => by
  unfold mBin at h
  refine ha B G H σ S _ R ?_
  cases hm : ma S with
  | bad =>
    rw [hm] at h
    exact h
  | err c pl S' =>
    rw [hm] at h
    exact h
  | ok d S' =>
    rw [hm, Rs.bind_ok] at h
    intro v G1 H1 e1 R1 d1
    refine hb B G1 H1 σ S' _ R1 ?_
    cases hn : mb S' with
    | bad =>
      rw [hn] at h
      exact h
    | err c pl S2 =>
      rw [hn] at h
      exact PoE.mono (r := .err c pl S2) (Q := Q) e1 h
    | ok d' S2 =>
      rw [hn, Rs.bind_ok] at h
      intro u G2 H2 e2 R2 d2
      cases hf : f d d' with
      | none =>
        rw [hf] at h
        exact h.elim
      | some z =>
        rw [hf] at h
        exact ho v u d d' z G2 H2 Q hf (d1.mono e2) d2 R2.gh fun w G3 H3 al d3 => h w G3 H3 ((e1.trans e2).trans (al.ex R2.gh)) (R2.alc al) d3
theorem ge_op {op : Operator} (hr : OpR X (binaryOp op) r) (ho : OpD X.K r f) (ha : GE X W a ma) (hb : GE X W b mb) : GE X W (.BinOp a op b pos) (mBin f ma mb) := by
  obtain ⟨ta, pa, qa⟩ := ha
  obtain ⟨tb, pb, qb⟩ := hb
  exact ⟨_, pe_op hr pa pb, bin_out qa qb ho⟩
theorem ge_cmp {op : CmpOp} (hr : OpR X (compareOp op) r) (ho : OpD X.K r f) (ha : GE X W a ma) (hb : GE X W b mb) (hm : behindInMarks op b = false) : GE X W (.Compare a [op] [b] pos) (mBin f ma mb) := by
  obtain ⟨ta, pa, qa⟩ := ha
  obtain ⟨tb, pb, qb⟩ := hb
  exact ⟨_, pe_cmpR hr pa pb hm, bin_out qa qb ho⟩
end
end Q4


set_option Elab.async false
set_option linter.all false
set_option maxRecDepth 100000
set_option maxHeartbeats 4000000
/-! Part B: operators, tests, displays, subscripts, built-ins called. -/
namespace Q4
open PySem PySem.Spec PyProof.Rows L2 Evl

abbrev cap : Nat := 10000000
theorem cap_le {n : Nat} (h : n ≤ cap) : n ≤ sizeLine := Nat.le_trans h (by rw [sizeLine_eq]; decide)
theorem cap_lt {n : Nat} (h : n < cap) : n < sizeLine := Nat.lt_of_lt_of_le h (by rw [sizeLine_eq]; decide)

/-! ### data for == and repr -/
mutual
def D.py : D → PyData
  | .non => .none | .bl b => .bool b | .int i => .int i | .str s => .str s
  | .lst ds => .list (D.pys ds) | .tup ds => .tuple (D.pys ds) | .ins _ _ _ => .none | .scr _ => .none
def D.pys : List D → List PyData
  | [] => []
  | d :: ds => D.py d :: D.pys ds
end
mutual
/-- no instance in it -/
def D.flat : D → Bool
  | .lst ds => D.flats ds | .tup ds => D.flats ds | .ins _ _ _ => false | .scr _ => false | _ => true
def D.flats : List D → Bool
  | [] => true
  | d :: ds => D.flat d && D.flats ds
end
mutual
/-- no list in it -/
def D.lf : D → Bool
  | .lst _ => false | .tup ds => D.lfs ds | .ins _ _ _ => false | .scr _ => false | _ => true
def D.lfs : List D → Bool
  | [] => true
  | d :: ds => D.lf d && D.lfs ds
end
section
variable {K : PySem.W.Frag} {H : Hp}
mutual
theorem DP.py : ∀ {d : D} {v : V}, DP K H v d → d.flat = true → Dp K H v d.py
  | .non, _, .non, _ => .non
  | .bl _, _, .bl b, _ => .bl b
  | .int _, _, .int i, _ => .int i
  | .str _, _, .str x, _ => .str x
  | .lst ds, _, .lst h hs, f => .lst (SqL.of h) (DPs.pys hs (by simpa [D.flat] using f))
  | .tup ds, _, .tup h hs, f => .tup h (DPs.pys hs (by simpa [D.flat] using f))
  | .ins _ _ _, _, .ins _ _ _ _, f => by simp [D.flat] at f
  | .scr _, _, .scr _, f => by simp [D.flat] at f
theorem DPs.pys : ∀ {ds : List D} {vs : List V}, DPs K H vs ds → D.flats ds = true → DpAll K H vs (D.pys ds)
  | [], _, .nil, _ => .nil
  | d :: ds, _, .cons h hs, f => by
    have f' : d.flat = true ∧ D.flats ds = true := by simpa [D.flats] using f
    exact .cons (DP.py h f'.1) (DPs.pys hs f'.2)
end
mutual
/-- what holds no list stands on tuples alone -/
theorem DP.tups {H' : Hp} (e : ∀ a xs, SqT K H a xs → SqT K H' a xs) : ∀ {d : D} {v : V}, DP K H v d → d.lf = true → DP K H' v d
  | .non, _, .non, _ => .non
  | .bl _, _, .bl b, _ => .bl b
  | .int _, _, .int i, _ => .int i
  | .str _, _, .str x, _ => .str x
  | .lst ds, _, .lst h hs, f => by simp [D.lf] at f
  | .tup ds, _, .tup h hs, f => .tup (e _ _ h) (DPs.tups e hs (by simpa [D.lf] using f))
  | .ins _ _ _, _, .ins _ _ _ _, f => by simp [D.lf] at f
  | .scr _, _, .scr _, f => by simp [D.lf] at f
theorem DPs.tups {H' : Hp} (e : ∀ a xs, SqT K H a xs → SqT K H' a xs) : ∀ {ds : List D} {vs : List V}, DPs K H vs ds → D.lfs ds = true → DPs K H' vs ds
  | [], _, .nil, _ => .nil
  | d :: ds, _, .cons h hs, f => by
    have f' : d.lf = true ∧ D.lfs ds = true := by simpa [D.lfs] using f
    exact .cons (DP.tups e h f'.1) (DPs.tups e hs f'.2)
end
end

/-! ### operators -/
section
variable {K : PySem.W.Frag}
theorem OpD.or {r r' : R2} {f f' : D → D → Option D} (h : OpD K r f) (h' : OpD K r' f') : OpD K (fun x y H Q => r x y H Q ∨ r' x y H Q) (fun a b => (f a b).or (f' a b)) := by
  intro x y a b d G H Q e0 dx dy gh k
  have e : (f a b).or (f' a b) = some d := e0
  cases q : f a b with
  | some z =>
    rw [q] at e
    exact .inl (h x y a b d G H Q (by rw [q]; exact e) dx dy gh k)
  | none =>
    rw [q] at e
    exact .inr (h' x y a b d G H Q e dx dy gh k)
theorem opd_int0 {g : Int → Int → V} {gd : Int → Int → D} {f : D → D → Option D} (hg : ∀ i j G, DP K G (g i j) (gd i j)) (hf : ∀ a b d, f a b = some d → ∃ i j, a = .int i ∧ b = .int j ∧ d = gd i j) : OpD K (rI0 g) f := by
  intro x y a b d G H Q e dx dy gh k
  obtain ⟨i, j, rfl, rfl, rfl⟩ := hf a b d e
  cases dx
  cases dy
  exact ⟨i, j, rfl, rfl, k _ G H .refl (hg i j G)⟩
theorem opd_int {C : Int → Int → Prop} {g : Int → Int → V} {gd : Int → Int → D} {f : D → D → Option D} (hg : ∀ i j G, DP K G (g i j) (gd i j)) (hf : ∀ a b d, f a b = some d → ∃ i j, a = .int i ∧ b = .int j ∧ C i j ∧ d = gd i j) : OpD K (rI C g) f := by
  intro x y a b d G H Q e dx dy gh k
  obtain ⟨i, j, rfl, rfl, hc, rfl⟩ := hf a b d e
  cases dx
  cases dy
  exact ⟨i, j, rfl, rfl, hc, k _ G H .refl (hg i j G)⟩
def dSub : D → D → Option D
  | .int i, .int j => some (.int (i - j))
  | _, _ => none
theorem od_sub : OpD K (rI0 fun i j => .int (i - j)) dSub := opd_int0 (fun i j G => .int _) fun a b d e => by
  unfold dSub at e
  split at e
  · exact ⟨_, _, rfl, rfl, (Option.some.inj e).symm⟩
  · cases e
def dAddI : D → D → Option D
  | .int i, .int j => some (.int (i + j))
  | _, _ => none
theorem od_addI : OpD K (rI0 fun i j => .int (i + j)) dAddI := opd_int0 (fun i j G => .int _) fun a b d e => by
  unfold dAddI at e
  split at e
  · exact ⟨_, _, rfl, rfl, (Option.some.inj e).symm⟩
  · cases e
def dAddS : D → D → Option D
  | .str i, .str j => if i.length + j.length ≤ cap then some (.str (i ++ j)) else none
  | _, _ => none
theorem od_addS : OpD K (fun x y H Q => ∃ i j, x = .str i ∧ y = .str j ∧ i.length + j.length ≤ sizeLine ∧ Q (.str (i ++ j)) H) dAddS := by
  intro x y a b d G H Q e dx dy gh k
  unfold dAddS at e
  split at e
  · split at e
    · rename_i hc
      cases e
      cases dx
      cases dy
      exact ⟨_, _, rfl, rfl, cap_le hc, k _ G H .refl (.str _)⟩
    · cases e
  · cases e
def dAddT : D → D → Option D
  | .tup i, .tup j => if i.length + j.length ≤ cap then some (.tup (i ++ j)) else none
  | _, _ => none
theorem od_addT : OpD K (rCatA K) dAddT := by
  intro x y a b d G H Q e dx dy gh k
  unfold dAddT at e
  split at e
  · split at e
    · rename_i hc
      cases e
      cases dx with
      | tup h1 hs1 =>
      cases dy with
      | tup h2 hs2 =>
      rename_i a1 xs1 a2 xs2
      refine ⟨a1, a2, xs1, xs2, rfl, rfl, ex_t gh h1, ex_t gh h2, by rw [hs1.length, hs2.length]; exact cap_le hc, fun z => ?_, fun z z2 => ?_, fun z z2 p hp => ?_⟩
      · subst z
        cases hs1
        exact k _ G H .refl (.tup h2 hs2)
      · subst z2
        cases hs2
        refine k _ G H .refl ?_
        rw [List.append_nil]
        exact .tup h1 hs1
      · exact k _ _ _ (.inr ⟨p, _, hp, rfl, rfl⟩) (.tup (SqT.of upd_same) ((hs1.append hs2).mono (Ex.new (fresh_back gh hp))))
    · cases e
  · cases e
/-- + of ints, texts, tuples -/
def dAdd : D → D → Option D := fun a b => ((dAddI a b).or (dAddS a b)).or (dAddT a b)
@[simp] theorem dAdd_int (i j : Int) : dAdd (.int i) (.int j) = some (.int (i + j)) := rfl
theorem dAdd_tup (i j : List D) : dAdd (.tup i) (.tup j) = if i.length + j.length ≤ cap then some (.tup (i ++ j)) else none := rfl
theorem dAdd_str (i j : Str) : dAdd (.str i) (.str j) = if i.length + j.length ≤ cap then some (.str (i ++ j)) else none := by
  show ((none : Option D).or (if i.length + j.length ≤ cap then some (.str (i ++ j)) else none)).or none = _
  split <;> rfl
abbrev rAddD (K : PySem.W.Frag) : R2 := fun x y H Q => ((rI0 fun i j => V.int (i + j)) x y H Q ∨ (∃ i j, x = .str i ∧ y = .str j ∧ i.length + j.length ≤ sizeLine ∧ Q (.str (i ++ j)) H)) ∨ rCatA K x y H Q
theorem or_add {X : Cx} : OpR X (binaryOp .Add) (rAddD X.K) := (op_add.or op_add_str).or op_catA
theorem od_add : OpD K (rAddD K) dAdd := (od_addI.or od_addS).or od_addT
/-- * of ints of together less than a million bits -/
def dMulI : D → D → Option D
  | .int i, .int j => if i.natAbs.log2 + j.natAbs.log2 < 1000000 then some (.int (i * j)) else none
  | _, _ => none
theorem od_mulI : OpD K (rI CMulW fun i j => .int (i * j)) dMulI := opd_int (gd := fun i j => .int (i * j)) (fun i j G => .int _) fun a b d e => by
  unfold dMulI at e
  split at e
  · split at e
    · rename_i h
      exact ⟨_, _, rfl, rfl, h, (Option.some.inj e).symm⟩
    · cases e
  · cases e
def dMod : D → D → Option D
  | .int i, .int j => if 0 < j then some (.int (i % j)) else none
  | _, _ => none
theorem od_mod : OpD K (rI (fun _ j => 0 < j) fun i j => .int (i % j)) dMod := opd_int (gd := fun i j => .int (i % j)) (fun i j G => .int _) fun a b d e => by
  unfold dMod at e
  split at e
  · split at e
    · rename_i h
      exact ⟨_, _, rfl, rfl, h, (Option.some.inj e).symm⟩
    · cases e
  · cases e
def dFdiv : D → D → Option D
  | .int i, .int j => if 0 < j ∧ j.natAbs.log2 < 9000 then some (.int (i / j)) else none
  | _, _ => none
theorem od_fdiv : OpD K (rI CDivW fun i j => .int (i / j)) dFdiv := opd_int (gd := fun i j => .int (i / j)) (fun i j G => .int _) fun a b d e => by
  unfold dFdiv at e
  split at e
  · split at e
    · rename_i h
      exact ⟨_, _, rfl, rfl, h, (Option.some.inj e).symm⟩
    · cases e
  · cases e
def dPow : D → D → Option D
  | .int i, .int j => if 0 ≤ j ∧ j ≤ 1000 ∧ i.natAbs < 2 ^ 64 then some (.int (i ^ j.toNat)) else none
  | _, _ => none
theorem od_pow : OpD K (rI CPow fun i j => .int (i ^ j.toNat)) dPow := opd_int (gd := fun i j => .int (i ^ j.toNat)) (fun i j G => .int _) fun a b d e => by
  unfold dPow at e
  split at e
  · split at e
    · rename_i h
      exact ⟨_, _, rfl, rfl, ⟨h.1, by omega, h.2.2⟩, (Option.some.inj e).symm⟩
    · cases e
  · cases e
def dCmp (p : Int → Int → Bool) : D → D → Option D
  | .int i, .int j => some (.bl (p i j))
  | _, _ => none
@[simp] theorem dCmp_int (p : Int → Int → Bool) (i j : Int) : dCmp p (.int i) (.int j) = some (.bl (p i j)) := rfl
theorem od_cmp (p : Int → Int → Bool) : OpD K (rI0 fun i j => .bl (p i j)) (dCmp p) := opd_int0 (gd := fun i j => .bl (p i j)) (fun i j G => .bl _) fun a b d e => by
  unfold dCmp at e
  split at e
  · exact ⟨_, _, rfl, rfl, (Option.some.inj e).symm⟩
  · cases e
def dLt : D → D → Option D := dCmp fun i j => decide (i < j)
def dLe : D → D → Option D := dCmp fun i j => decide (i ≤ j)
def dGt : D → D → Option D := dCmp fun i j => decide (j < i)
def dGe : D → D → Option D := dCmp fun i j => decide (j ≤ i)
@[simp] theorem dLt_int (i j : Int) : dLt (.int i) (.int j) = some (.bl (decide (i < j))) := rfl
@[simp] theorem dLe_int (i j : Int) : dLe (.int i) (.int j) = some (.bl (decide (i ≤ j))) := rfl
@[simp] theorem dGt_int (i j : Int) : dGt (.int i) (.int j) = some (.bl (decide (j < i))) := rfl
@[simp] theorem dGe_int (i j : Int) : dGe (.int i) (.int j) = some (.bl (decide (j ≤ i))) := rfl
/-- == of data -/
def dEqB (a b : D) : Option Bool := if (a.flat && b.flat && SeqAt.shaped a.py && SeqAt.shaped b.py) = true then some (PyData.eqv a.py b.py) else none
def dEq (a b : D) : Option D := (dEqB a b).map .bl
def dNe (a b : D) : Option D := (dEqB a b).map fun b => .bl (!b)
theorem eqB_of {a b : D} {k : Bool} (h : dEqB a b = some k) : a.flat = true ∧ b.flat = true ∧ SeqAt.shaped a.py = true ∧ SeqAt.shaped b.py = true ∧ PyData.eqv a.py b.py = k := by
  unfold dEqB at h
  split at h
  · rename_i q
    have q' : ((a.flat = true ∧ b.flat = true) ∧ SeqAt.shaped a.py = true) ∧ SeqAt.shaped b.py = true := by simpa using q
    exact ⟨q'.1.1.1, q'.1.1.2, q'.1.2, q'.2, Option.some.inj h⟩
  · cases h
theorem od_eq : OpD K (rEqD K) dEq := by
  intro x y a b d G H Q e dx dy gh k
  unfold dEq at e
  obtain ⟨c, e1, e2⟩ := Option.map_eq_some_iff.mp e
  obtain ⟨f1, f2, s1, s2, e3⟩ := eqB_of e1
  subst e2 e3
  exact ⟨_, _, (dx.mono gh).py f1, (dy.mono gh).py f2, s1, s2, k _ G H .refl (.bl _)⟩
theorem od_ne : OpD K (rNeD K) dNe := by
  intro x y a b d G H Q e dx dy gh k
  unfold dNe at e
  obtain ⟨c, e1, e2⟩ := Option.map_eq_some_iff.mp e
  obtain ⟨f1, f2, s1, s2, e3⟩ := eqB_of e1
  subst e2 e3
  exact ⟨_, _, (dx.mono gh).py f1, (dy.mono gh).py f2, s1, s2, k _ G H .refl (.bl _)⟩
theorem dEqB_int (i j : Int) : dEqB (.int i) (.int j) = some (i == j) := rfl
theorem dEqB_bl (i j : Bool) : dEqB (.bl i) (.bl j) = some (i == j) := by cases i <;> cases j <;> rfl
/-- x in xs, flat things -/
def V.ofD : D → V
  | .non => .non | .bl b => .bl b | .int i => .int i | .str s => .str s | _ => .non
def dScal : D → Bool
  | .non => true | .bl _ => true | .int _ => true | .str _ => true | _ => false
theorem DP.scal {G : Hp} {v : V} {d : D} (h : DP K G v d) (s : dScal d = true) : v = V.ofD d := by
  cases h <;> first | rfl | cases s
theorem DPs.scals {G : Hp} : ∀ {vs : List V} {ds : List D}, DPs K G vs ds → ds.all dScal = true → vs = ds.map V.ofD
  | _, _, .nil, _ => rfl
  | _, d :: ds, .cons h hs, s => by
    have s' : dScal d = true ∧ ds.all dScal = true := by
      rw [List.all_cons, Bool.and_eq_true] at s
      exact s
    rw [List.map_cons, ← h.scal s'.1, ← DPs.scals hs s'.2]
def dIn (neg : Bool) : D → D → Option D := fun x t => match t with
  | .lst ds => if dScal x && ds.all dScal && flatV (V.ofD x) && (ds.map V.ofD).all flatV then some (.bl (if neg then !inV (V.ofD x) (ds.map V.ofD) else inV (V.ofD x) (ds.map V.ofD))) else none
  | .tup ds => if dScal x && ds.all dScal && flatV (V.ofD x) && (ds.map V.ofD).all flatV then some (.bl (if neg then !inV (V.ofD x) (ds.map V.ofD) else inV (V.ofD x) (ds.map V.ofD))) else none
  | _ => none
theorem od_in (neg : Bool) : OpD K (rIn K neg) (dIn neg) := by
  intro x y a b d G H Q e dx dy gh k
  unfold dIn at e
  split at e
  · split at e
    · rename_i h
      rw [Bool.and_eq_true, Bool.and_eq_true, Bool.and_eq_true] at h
      have h' := h
      cases dy with
      | lst h1 hs1 =>
      have e1 := dx.scal h'.1.1.1
      have e2 := hs1.scals h'.1.1.2
      refine ⟨_, _, rfl, .inl (SqL.of (gh _ _ h1)), by rw [e1]; exact h'.1.2, by rw [e2]; exact h'.2, ?_⟩
      cases e
      rw [e1, e2]
      exact k _ G H .refl (.bl _)
    · cases e
  · split at e
    · rename_i h
      rw [Bool.and_eq_true, Bool.and_eq_true, Bool.and_eq_true] at h
      have h' := h
      cases dy with
      | tup h1 hs1 =>
      have e1 := dx.scal h'.1.1.1
      have e2 := hs1.scals h'.1.1.2
      refine ⟨_, _, rfl, .inr (ex_t gh h1), by rw [e1]; exact h'.1.2, by rw [e2]; exact h'.2, ?_⟩
      cases e
      rw [e1, e2]
      exact k _ G H .refl (.bl _)
    · cases e
  · cases e
/-- an item -/
def dIx : D → D → Option D
  | .lst ds, .int i => atI ds i
  | .tup ds, .int i => atI ds i
  | _, _ => none
theorem atI_get {G : Hp} {vs : List V} {ds : List D} {i : Int} {d : D} (hs : DPs K G vs ds) (e : atI ds i = some d) : ∃ v, atI vs i = some v ∧ DP K G v d := by
  unfold atI at e ⊢
  rw [hs.length]
  cases q : ixN ds.length i with
  | none =>
    rw [q] at e
    cases e
  | some j =>
    rw [q] at e
    exact hs.get e
theorem od_ix : OpD K (rIx K) dIx := by
  intro x y a b d G H Q e dx dy gh k
  unfold dIx at e
  split at e
  · cases dx with
    | lst h1 hs1 =>
    cases dy
    obtain ⟨v, e1, hv⟩ := atI_get hs1 e
    exact .inl ⟨_, _, _, v, rfl, rfl, SqL.of (gh _ _ h1), e1, k _ G H .refl hv⟩
  · cases dx with
    | tup h1 hs1 =>
    cases dy
    obtain ⟨v, e1, hv⟩ := atI_get hs1 e
    exact .inr (.inl ⟨_, _, _, v, rfl, rfl, ex_t gh h1, e1, k _ G H .refl hv⟩)
  · cases e
end

/-! ### one-place operators, tests -/
def mUn (f : D → Option D) (ma : M D) : M D := fun S => (ma S).bind fun a S1 => Rs.lift (f a) S1
def dNeg : D → Option D
  | .int i => some (.int (-i))
  | _ => none
/-- a value's truth -/
def dTru : D → Option Bool
  | .non => some false
  | .bl b => some b
  | .int i => some (i != 0)
  | .str y => if y.length ≤ cap then some ((y.length : Int) != 0) else none
  | .lst ds => some (!ds.isEmpty)
  | .tup ds => some (!ds.isEmpty)
  | .ins _ _ _ => none
  | .scr _ => none
def mTest (m : M D) : M Bool := fun S => (m S).bind fun d S1 => match d with
  | .bl b => .ok b S1
  | _ => .bad
def mTru (m : M D) : M Bool := fun S => (m S).bind fun d S1 => Rs.lift (dTru d) S1
def mNotT (m : M Bool) : M Bool := fun S => (m S).bind fun b S1 => .ok (!b) S1
def mAnd (m n : M Bool) : M Bool := fun S => (m S).bind fun b S1 => if b = true then n S1 else .ok false S1
def mOr (m n : M Bool) : M Bool := fun S => (m S).bind fun b S1 => if b = true then .ok true S1 else n S1
/-- and, or as values: all but the last True or False -/
def mAndV (m n : M D) : M D := fun S => (m S).bind fun d S1 => match d with
  | .bl b => if b = true then n S1 else .ok (.bl false) S1
  | _ => .bad
def mOrV (m n : M D) : M D := fun S => (m S).bind fun d S1 => match d with
  | .bl b => if b = true then .ok (.bl true) S1 else n S1
  | _ => .bad
def mNotV (m : M D) : M D := fun S => (m S).bind fun d S1 => match d with
  | .bl b => .ok (.bl (!b)) S1
  | _ => .bad
def mIf (c : M Bool) (m n : M D) : M D := fun S => (c S).bind fun b S1 => if b = true then m S1 else n S1
def mChain (f f' : D → D → Option D) (ma mb mc : M D) : M D := fun S => (ma S).bind fun a S1 => (mb S1).bind fun b S2 => match f a b with
  | some (.bl true) => (mc S2).bind fun c S3 => Rs.lift (f' b c) S3
  | some (.bl false) => .ok (.bl false) S2
  | _ => .bad
section
variable {X : Cx} {W : WX} {a b c : Expr} {ma mb mc : M D} {na nb : M Bool} {pos : Pos} {rest : List Expr}
theorem isEmpty_of {K : PySem.W.Frag} {G : Hp} {vs : List V} {ds : List D} (h : DPs K G vs ds) : (!vs.isEmpty) = !ds.isEmpty := by
  cases h <;> rfl
theorem DP.tru {K : PySem.W.Frag} {G H : Hp} {v : V} {d : D} {k : Bool} (h : DP K G v d) (gh : Ex G H) (e : dTru d = some k) : TruV K v H k := by
  cases h with
  | non => exact (Option.some.inj (show some false = some k from e)).symm
  | bl b => exact (Option.some.inj (show some b = some k from e)).symm
  | int i => exact (Option.some.inj (show some (i != 0) = some k from e)).symm
  | str x =>
    have e' : (if x.length ≤ cap then some ((x.length : Int) != 0) else none) = some k := e
    by_cases hz : x.length ≤ cap
    · rw [if_pos hz] at e'
      exact ⟨cap_le hz, (Option.some.inj e').symm⟩
    · rw [if_neg hz] at e'
      cases e'
  | lst h hs =>
    cases e
    exact .inl ⟨_, SqL.of (gh _ _ h), by rw [isEmpty_of hs]⟩
  | tup h hs =>
    cases e
    exact .inr (.inl ⟨_, ex_t gh h, by rw [isEmpty_of hs]⟩)
  | ins _ _ _ _ => cases e
  | scr _ => cases e
theorem un_out {ta : TE} {r : V → Hp → VK → Prop} {f : D → Option D} (ha : ∀ B G H σ S Q, Rel X.K B G H σ S → PoE X.K X.mg B W σ G (ma S) Q → ta σ H Q)
    (ho : ∀ (x : V) (d d' : D) (G H : Hp) (Q : VK), f d = some d' → DP X.K G x d → Ex G H → (∀ v G' H', Alc G H G' H' → DP X.K G' v d' → Q v H') → r x H Q) :
    ∀ B G H σ S Q, Rel X.K B G H σ S → PoE X.K X.mg B W σ G (mUn f ma S) Q → tUn r ta σ H Q := fun B G H σ S Q R h => by
  unfold mUn at h
  refine ha B G H σ S _ R ?_
  cases hm : ma S with
  | bad => rw [hm] at h; exact h
  | err c pl S' => rw [hm] at h; exact h
  | ok d S' =>
    rw [hm, Rs.bind_ok] at h
    intro v G1 H1 e1 R1 d1
    cases hf : f d with
    | none => rw [hf] at h; exact h.elim
    | some z =>
      rw [hf] at h
      exact ho v d z G1 H1 Q hf d1 R1.gh fun w G3 H3 al d3 => h w G3 H3 (e1.trans (al.ex R1.gh)) (R1.alc al) d3
theorem ge_neg (ha : GE X W a ma) : GE X W (.UnaryOp .USub a pos) (mUn dNeg ma) := by
  obtain ⟨ta, pa, qa⟩ := ha
  refine ⟨_, pe_un un_neg pa, un_out qa fun x d d' G H Q e dx gh k => ?_⟩
  unfold dNeg at e
  split at e
  · cases e
    cases dx
    exact ⟨_, rfl, k _ G H .refl (.int _)⟩
  · cases e
theorem gt_cmp {op : CmpOp} {r : R2} {f : D → D → Option D} (hr : OpR X (compareOp op) r) (ho : OpD X.K r f) (ha : GE X W a ma) (hb : GE X W b mb) (hm : behindInMarks op b = false) : GT X W (.Compare a [op] [b] pos) (mTest (mBin f ma mb)) := by
  obtain ⟨ta, pa, qa⟩ := ha
  obtain ⟨tb, pb, qb⟩ := hb
  refine ⟨_, pt_cmpR hr pa pb hm, fun B G H σ S Q R h => ?_⟩
  refine bin_out qa qb ho B G H σ S _ R ?_
  unfold mTest at h
  cases hm : mBin f ma mb S with
  | bad => rw [hm] at h; exact h
  | err c pl S' => rw [hm] at h; exact h
  | ok d S' =>
    rw [hm, Rs.bind_ok] at h
    intro v G1 H1 e1 R1 d1
    cases d1 <;> first | exact h.elim | exact ⟨_, rfl, h _ _ e1 R1⟩
theorem chain_out {ta tb tc : TE} {r r' : R2} {f f' : D → D → Option D} (qa : ∀ B G H σ S Q, Rel X.K B G H σ S → PoE X.K X.mg B W σ G (ma S) Q → ta σ H Q) (qb : ∀ B G H σ S Q, Rel X.K B G H σ S → PoE X.K X.mg B W σ G (mb S) Q → tb σ H Q)
    (qc : ∀ B G H σ S Q, Rel X.K B G H σ S → PoE X.K X.mg B W σ G (mc S) Q → tc σ H Q) (ho : OpD X.K r f) (ho' : OpD X.K r' f') :
    ∀ B G H σ S Q, Rel X.K B G H σ S → PoE X.K X.mg B W σ G (mChain f f' ma mb mc S) Q → tChain r r' ta tb tc σ H Q := fun B G H σ S Q R h => by
  unfold mChain at h
  refine qa B G H σ S _ R ?_
  cases hm : ma S with
  | bad => rw [hm] at h; exact h
  | err c pl S' => rw [hm] at h; exact h
  | ok d S' =>
    rw [hm, Rs.bind_ok] at h
    intro v G1 H1 e1 R1 d1
    refine qb B G1 H1 σ S' _ R1 ?_
    cases hn : mb S' with
    | bad => rw [hn] at h; exact h
    | err c pl S2 => rw [hn] at h; exact PoE.mono (r := .err c pl S2) (Q := Q) e1 h
    | ok d' S2 =>
      rw [hn, Rs.bind_ok] at h
      intro u G2 H2 e2 R2 d2
      cases hf : f d d' with
      | none => rw [hf] at h; exact h.elim
      | some z =>
        rw [hf] at h
        refine ho v u d d' z G2 H2 _ hf (d1.mono e2) d2 R2.gh fun w G3 H3 al d3 => ?_
        have e3 := al.ex R2.gh
        have R3 := R2.alc al
        cases d3 with
        | bl k =>
          refine ⟨k, rfl, ?_⟩
          cases k with
          | false => exact iteF (h _ _ _ ((e1.trans e2).trans e3) R3 (.bl false))
          | true =>
            refine iteT (qc B G3 H3 σ S2 _ R3 ?_)
            have h' : PoE X.K X.mg B W σ G ((mc S2).bind fun c S3 => Rs.lift (f' d' c) S3) Q := h
            cases hq : mc S2 with
            | bad => rw [hq] at h'; exact h'
            | err c pl S3 => rw [hq] at h'; exact PoE.mono (r := .err c pl S3) (Q := Q) ((e1.trans e2).trans e3) h'
            | ok dc S3 =>
              rw [hq, Rs.bind_ok] at h'
              intro w4 G4 H4 e4 R4 d4
              cases hf' : f' d' dc with
              | none => rw [hf'] at h'; exact h'.elim
              | some z' =>
                rw [hf'] at h'
                exact ho' u w4 d' dc z' G4 H4 Q hf' (d2.mono (e3.trans e4)) d4 R4.gh fun w5 G5 H5 al5 d5 => h' w5 G5 H5 ((((e1.trans e2).trans e3).trans e4).trans (al5.ex R4.gh)) (R4.alc al5) d5
        | _ => exact h.elim
theorem ge_chain {op op' : CmpOp} {r r' : R2} {f f' : D → D → Option D} (hr : OpR X (compareOp op) r) (ho : OpD X.K r f) (hr' : OpR X (compareOp op') r') (ho' : OpD X.K r' f') (ha : GE X W a ma) (hb : GE X W b mb) (hc : GE X W c mc)
    (hm : lastMarks [op, op'] [b, c] = false := by with_unfolding_all rfl) : GE X W (.Compare a [op, op'] [b, c] pos) (mChain f f' ma mb mc) := by
  obtain ⟨ta, pa, qa⟩ := ha
  obtain ⟨tb, pb, qb⟩ := hb
  obtain ⟨tc, pc, qc⟩ := hc
  exact ⟨_, pe_chain hr hr' pa pb pc hm, chain_out qa qb qc ho ho'⟩
theorem gt_chain {op op' : CmpOp} {r r' : R2} {f f' : D → D → Option D} (hr : OpR X (compareOp op) r) (ho : OpD X.K r f) (hr' : OpR X (compareOp op') r') (ho' : OpD X.K r' f') (ha : GE X W a ma) (hb : GE X W b mb) (hc : GE X W c mc)
    (hm : lastMarks [op, op'] [b, c] = false := by with_unfolding_all rfl) : GT X W (.Compare a [op, op'] [b, c] pos) (mTest (mChain f f' ma mb mc)) := by
  obtain ⟨ta, pa, qa⟩ := ha
  obtain ⟨tb, pb, qb⟩ := hb
  obtain ⟨tc, pc, qc⟩ := hc
  refine ⟨_, pt_chain hr hr' pa pb pc hm, fun B G H σ S Q R h => ?_⟩
  refine chain_out qa qb qc ho ho' B G H σ S _ R ?_
  unfold mTest at h
  cases hm : mChain f f' ma mb mc S with
  | bad => rw [hm] at h; exact h
  | err c pl S' => rw [hm] at h; exact h
  | ok d S' =>
    rw [hm, Rs.bind_ok] at h
    intro v G1 H1 e1 R1 d1
    cases d1 <;> first | exact h.elim | exact ⟨_, rfl, h _ _ e1 R1⟩
theorem gt_tru (ha : GE X W a ma) (he : ∀ whole, isTrue a X.env whole = (do let v ← whole; standAt a.pos; holding [v] (truthy v)) := by intro _; rfl) : GT X W a (mTru ma) := by
  obtain ⟨ta, pa, qa⟩ := ha
  refine ⟨_, pt_truth pa he, fun B G H σ S Q R h => ?_⟩
  refine qa B G H σ S _ R ?_
  unfold mTru at h
  cases hm : ma S with
  | bad => rw [hm] at h; exact h
  | err c pl S' => rw [hm] at h; exact h
  | ok d S' =>
    rw [hm, Rs.bind_ok] at h
    intro v G1 H1 e1 R1 d1
    cases hf : dTru d with
    | none => rw [hf] at h; exact h.elim
    | some z =>
      rw [hf] at h
      exact ⟨z, d1.tru R1.gh hf, h _ _ e1 R1⟩
theorem gt_not (ha : GT X W a na) : GT X W (.UnaryOp .Not a pos) (mNotT na) := by
  obtain ⟨ta, pa, qa⟩ := ha
  refine ⟨_, pt_not pa, fun B G H σ S Q R h => ?_⟩
  refine qa B G H σ S _ R ?_
  unfold mNotT at h
  cases hm : na S with
  | bad => rw [hm] at h; exact h
  | err c pl S' => rw [hm] at h; exact h
  | ok d S' => rw [hm, Rs.bind_ok] at h; exact h
theorem gw_and1 (ha : GT X W a na) : GW X W (.BoolOp .And [a] pos) na := by
  obtain ⟨ta, pa, qa⟩ := ha
  exact ⟨_, pw_and1 pa, qa⟩
theorem gw_or1 (ha : GT X W a na) : GW X W (.BoolOp .Or [a] pos) na := by
  obtain ⟨ta, pa, qa⟩ := ha
  exact ⟨_, pw_or1 pa, qa⟩
theorem gw_and (ha : GT X W a na) (hb : GW X W (.BoolOp .And (b :: rest) pos) nb) : GW X W (.BoolOp .And (a :: b :: rest) pos) (mAnd na nb) := by
  obtain ⟨ta, pa, qa⟩ := ha
  obtain ⟨tb, pb, qb⟩ := hb
  refine ⟨_, pw_and pa pb, fun B G H σ S Q R h => ?_⟩
  refine qa B G H σ S _ R ?_
  unfold mAnd at h
  cases hm : na S with
  | bad => rw [hm] at h; exact h
  | err c pl S' => rw [hm] at h; exact h
  | ok d S' =>
    rw [hm, Rs.bind_ok] at h
    intro G1 H1 e1 R1
    cases d with
    | true => exact iteT (qb B G1 H1 σ S' Q R1 (PoT.mono e1 h))
    | false => exact iteF (h G1 H1 e1 R1)
theorem gw_or (ha : GT X W a na) (hb : GW X W (.BoolOp .Or (b :: rest) pos) nb) : GW X W (.BoolOp .Or (a :: b :: rest) pos) (mOr na nb) := by
  obtain ⟨ta, pa, qa⟩ := ha
  obtain ⟨tb, pb, qb⟩ := hb
  refine ⟨_, pw_or pa pb, fun B G H σ S Q R h => ?_⟩
  refine qa B G H σ S _ R ?_
  unfold mOr at h
  cases hm : na S with
  | bad => rw [hm] at h; exact h
  | err c pl S' => rw [hm] at h; exact h
  | ok d S' =>
    rw [hm, Rs.bind_ok] at h
    intro G1 H1 e1 R1
    cases d with
    | false => exact iteF (qb B G1 H1 σ S' Q R1 (PoT.mono e1 h))
    | true => exact iteT (h G1 H1 e1 R1)
theorem gt_bool {op : BoolOp} {es : List Expr} (h : GW X W (.BoolOp op es pos) na) : GT X W (.BoolOp op es pos) na := by
  obtain ⟨t, p, q⟩ := h
  exact ⟨t, p.pt, q⟩
theorem ge_one {op : BoolOp} (ha : GE X W a ma) : GE X W (.BoolOp op [a] pos) ma := by
  obtain ⟨ta, pa, qa⟩ := ha
  exact ⟨_, pe_one pa, qa⟩
theorem ge_and (ha : GE X W a ma) (hb : GE X W (.BoolOp .And (b :: rest) pos) mb) : GE X W (.BoolOp .And (a :: b :: rest) pos) (mAndV ma mb) := by
  obtain ⟨ta, pa, qa⟩ := ha
  obtain ⟨tb, pb, qb⟩ := hb
  refine ⟨_, pe_and pa pb, fun B G H σ S Q R h => ?_⟩
  refine qa B G H σ S _ R ?_
  unfold mAndV at h
  cases hm : ma S with
  | bad => rw [hm] at h; exact h
  | err c pl S' => rw [hm] at h; exact h
  | ok d S' =>
    rw [hm, Rs.bind_ok] at h
    intro v G1 H1 e1 R1 d1
    cases d1 with
    | bl k =>
      refine ⟨k, rfl, ?_⟩
      cases k with
      | true => exact iteT (qb B G1 H1 σ S' Q R1 (PoE.mono e1 h))
      | false => exact iteF (h _ G1 H1 e1 R1 (.bl false))
    | _ => exact h.elim
theorem ge_or (ha : GE X W a ma) (hb : GE X W (.BoolOp .Or (b :: rest) pos) mb) : GE X W (.BoolOp .Or (a :: b :: rest) pos) (mOrV ma mb) := by
  obtain ⟨ta, pa, qa⟩ := ha
  obtain ⟨tb, pb, qb⟩ := hb
  refine ⟨_, pe_or pa pb, fun B G H σ S Q R h => ?_⟩
  refine qa B G H σ S _ R ?_
  unfold mOrV at h
  cases hm : ma S with
  | bad => rw [hm] at h; exact h
  | err c pl S' => rw [hm] at h; exact h
  | ok d S' =>
    rw [hm, Rs.bind_ok] at h
    intro v G1 H1 e1 R1 d1
    cases d1 with
    | bl k =>
      refine ⟨k, rfl, ?_⟩
      cases k with
      | false => exact iteF (qb B G1 H1 σ S' Q R1 (PoE.mono e1 h))
      | true => exact iteT (h _ G1 H1 e1 R1 (.bl true))
    | _ => exact h.elim
theorem ge_not (ha : GE X W a ma) : GE X W (.UnaryOp .Not a pos) (mNotV ma) := by
  obtain ⟨ta, pa, qa⟩ := ha
  refine ⟨_, pe_not pa, fun B G H σ S Q R h => ?_⟩
  refine qa B G H σ S _ R ?_
  unfold mNotV at h
  cases hm : ma S with
  | bad => rw [hm] at h; exact h
  | err c pl S' => rw [hm] at h; exact h
  | ok d S' =>
    rw [hm, Rs.bind_ok] at h
    intro v G1 H1 e1 R1 d1
    cases d1 with
    | bl k => exact ⟨k, rfl, h _ G1 H1 e1 R1 (.bl _)⟩
    | _ => exact h.elim
theorem ge_if (hc : GT X W c na) (ha : GE X W a ma) (hb : GE X W b mb) : GE X W (.IfExp c a b pos) (mIf na ma mb) := by
  obtain ⟨tc, pc, qc⟩ := hc
  obtain ⟨ta, pa, qa⟩ := ha
  obtain ⟨tb, pb, qb⟩ := hb
  refine ⟨_, pe_ifExp pc pa pb, fun B G H σ S Q R h => ?_⟩
  refine qc B G H σ S _ R ?_
  unfold mIf at h
  cases hm : na S with
  | bad => rw [hm] at h; exact h
  | err c pl S' => rw [hm] at h; exact h
  | ok d S' =>
    rw [hm, Rs.bind_ok] at h
    intro G1 H1 e1 R1
    cases d with
    | true => exact iteT (qa B G1 H1 σ S' Q R1 (PoE.mono e1 h))
    | false => exact iteF (qb B G1 H1 σ S' Q R1 (PoE.mono e1 h))
end

/-! ### arguments, displays -/
def mNil : M (List D) := fun S => .ok [] S
def mCons (m : M D) (ms : M (List D)) : M (List D) := fun S => (m S).bind fun d S1 => (ms S1).bind fun ds S2 => .ok (d :: ds) S2
def mTup (ms : M (List D)) : M D := fun S => (ms S).bind fun ds S1 => if ds.length ≤ cap then .ok (.tup ds) S1 else .bad
def mLst (ms : M (List D)) : M (List D) := fun S => (ms S).bind fun ds S1 => if ds.length ≤ cap then .ok ds S1 else .bad
/-- a loose list is frozen -/
def mFz (m : M (List D)) : M D := fun S => (m S).bind fun ds S1 => .ok (.lst ds) S1
section
variable {X : Cx} {W : WX} {e : Expr} {es : List Expr} {m : M D} {ms : M (List D)} {pos : Pos}
theorem ga_nil : GA X W [] mNil := ⟨_, pa_nil, fun B G H σ S Q R h => h _ G H (Ex.refl _) R .nil⟩
theorem ga_cons (ha : GE X W e m) (hr : GA X W es ms) (hs : starEach (e :: es) X.env = (false, eval e X.env) :: starEach es X.env := by rfl) : GA X W (e :: es) (mCons m ms) := by
  obtain ⟨ta, pa, qa⟩ := ha
  obtain ⟨tb, pb, qb⟩ := hr
  refine ⟨_, pa_cons pa pb hs, fun B G H σ S Q R h => ?_⟩
  refine qa B G H σ S _ R ?_
  unfold mCons at h
  cases hm : m S with
  | bad => rw [hm] at h; exact h
  | err c pl S' => rw [hm] at h; exact h
  | ok d S' =>
    rw [hm, Rs.bind_ok] at h
    intro v G1 H1 e1 R1 d1
    refine qb B G1 H1 σ S' _ R1 ?_
    cases hn : ms S' with
    | bad => rw [hn] at h; exact h
    | err c pl S2 => rw [hn] at h; exact PoA.mono (r := .err c pl S2) (Q := Q) e1 h
    | ok ds S2 =>
      rw [hn, Rs.bind_ok] at h
      intro vs G2 H2 e2 R2 d2
      exact h _ G2 H2 (e1.trans e2) R2 (.cons (d1.mono e2) d2)
theorem ge_tup {x1} (ha : GA X W es ms) : GE X W (.Tuple es x1 pos) (mTup ms) := by
  obtain ⟨ta, pa, qa⟩ := ha
  refine ⟨_, pe_tup pa, fun B G H σ S Q R h => ?_⟩
  refine qa B G H σ S _ R ?_
  unfold mTup at h
  cases hm : ms S with
  | bad => rw [hm] at h; exact h
  | err c pl S' => rw [hm] at h; exact h
  | ok ds S' =>
    rw [hm, Rs.bind_ok] at h
    intro vs G1 H1 e1 R1 d1
    split at h
    · rename_i hz
      refine ⟨by rw [d1.length]; exact cap_le hz, fun p hp => ?_⟩
      have al : Alc G1 H1 _ _ := .inr ⟨p, .tup vs, hp, rfl, rfl⟩
      exact h _ _ _ (e1.trans (al.ex R1.gh)) (R1.alc al) (.tup (SqT.of upd_same) (d1.mono (al.ex R1.gh)))
    · exact h.elim
theorem gl_lst (ha : GA X W es ms) : GL X W (.List es pos) (mLst ms) := by
  obtain ⟨ta, pa, qa⟩ := ha
  refine ⟨_, pe_lst pa, fun B G H σ S Q R h => ?_⟩
  refine qa B G H σ S _ R ?_
  unfold mLst at h
  cases hm : ms S with
  | bad => rw [hm] at h; exact h
  | err c pl S' => rw [hm] at h; exact h
  | ok ds S' =>
    rw [hm, Rs.bind_ok] at h
    intro vs G1 H1 e1 R1 d1
    split at h
    · rename_i hz
      refine ⟨by rw [d1.length]; exact cap_le hz, fun p hp => ?_⟩
      exact h p vs G1 _ e1 (R1.loose hp) upd_same d1 (fresh_back R1.gh hp) (R1.noB hp) (R1.noS hp)
    · exact h.elim
theorem ge_fz (ha : GL X W e ms) : GE X W e (mFz ms) := by
  obtain ⟨ta, pa, qa⟩ := ha
  refine ⟨ta, pa, fun B G H σ S Q R h => ?_⟩
  refine qa B G H σ S _ R ?_
  unfold mFz at h
  cases hm : ms S with
  | bad => rw [hm] at h; exact h
  | err c pl S' => rw [hm] at h; exact h
  | ok ds S' =>
    rw [hm, Rs.bind_ok] at h
    intro p vs G1 H1 e1 R1 hp d1 gp bp ns
    have ex : Ex G1 (upd G1 p (.lst vs)) := Ex.new gp
    exact h _ _ _ (e1.trans ex) (R1.freeze hp gp (.inl bp) ns) (.lst upd_same (d1.mono ex))
end

/-! ### subscripts -/
section
variable {X : Cx} {W : WX} {a b : Expr} {ma mb : M D} {pos : Pos}
theorem ge_ix (ha : GE X W a ma) (hb : GE X W b mb) (hs : PlainIx b := by exact fun _ _ => rfl) : GE X W (.Subscript a b pos) (mBin dIx ma mb) := by
  obtain ⟨ta, pa, qa⟩ := ha
  obtain ⟨tb, pb, qb⟩ := hb
  exact ⟨_, pe_ix ix_seq pa pb hs, bin_out qa qb od_ix⟩
/-- a part of a slice -/
def GO (X : Cx) (W : WX) (e : Option Expr) (m : M (Option Int)) : Prop :=
  ∃ t : TO, PO X e t ∧ ∀ (B : Bs) (G H : Hp) (σ : L2.St) (S : SS) (Q : Option Int → Hp → Prop), Rel X.K B G H σ S → (match m S with
    | .ok o S' => ∀ G' H', Ex G G' → Rel X.K B G' H' σ S' → Q o H'
    | .err c pl S' => ∀ cls dd G' H', Ex G G' → Rel X.K B G' H' σ S' → ErrAt X.mg X.K G' H' c pl cls dd → W cls (some dd) σ H'
    | .bad => False) → t σ H Q
def mNoPart : M (Option Int) := fun S => .ok none S
def mPart (m : M D) : M (Option Int) := fun S => (m S).bind fun d S1 => match d with
  | .int i => .ok (some i) S1
  | _ => .bad
theorem go_none : GO X W none mNoPart := ⟨_, po_none, fun B G H σ S Q R h => h G H (Ex.refl _) R⟩
theorem go_some (ha : GE X W a ma) : GO X W (some a) (mPart ma) := by
  obtain ⟨ta, pa, qa⟩ := ha
  refine ⟨_, po_some pa, fun B G H σ S Q R h => ?_⟩
  refine qa B G H σ S _ R ?_
  unfold mPart at h
  cases hm : ma S with
  | bad => rw [hm] at h; exact h
  | err c pl S' => rw [hm] at h; exact h
  | ok d S' =>
    rw [hm, Rs.bind_ok] at h
    intro v G1 H1 e1 R1 d1
    cases d1 with
    | int i => exact ⟨i, rfl, h G1 H1 e1 R1⟩
    | _ => exact h.elim
/-- a cut of a list -/
def cutD (ds : List D) (lo hi : Option Int) : List D := (ds.drop (HT.sIx ds.length 0 lo)).take (HT.sIx ds.length ds.length hi - HT.sIx ds.length 0 lo)
theorem DPs.cut {K : PySem.W.Frag} {G : Hp} {vs : List V} {ds : List D} (h : DPs K G vs ds) (lo hi : Option Int) : DPs K G (cutV vs lo hi) (cutD ds lo hi) := by
  unfold cutV cutD
  rw [h.length]
  exact (h.drop _).take _
theorem cutD_whole {ds : List D} {lo hi : Option Int} (h : HT.sIx ds.length 0 lo = 0 ∧ HT.sIx ds.length ds.length hi = ds.length) : cutD ds lo hi = ds := by
  unfold cutD
  rw [h.1, h.2, List.drop_zero, Nat.sub_zero, List.take_length]
def mSlT (ma : M D) (ml mh : M (Option Int)) : M D := fun S => (ma S).bind fun a S1 => (ml S1).bind fun l S2 => (mh S2).bind fun u S3 => match a with
  | .tup ds => .ok (.tup (cutD ds l u)) S3
  | _ => .bad
def mSlL (ma : M D) (ml mh : M (Option Int)) : M (List D) := fun S => (ma S).bind fun a S1 => (ml S1).bind fun l S2 => (mh S2).bind fun u S3 => match a with
  | .lst ds => .ok (cutD ds l u) S3
  | _ => .bad
variable {lo hi : Option Expr} {ml mh : M (Option Int)} {p2 : Pos}
theorem ge_slT (ha : GE X W a ma) (hl : GO X W lo ml) (hh : GO X W hi mh) : GE X W (.Subscript a (.Slice lo hi none p2) pos) (mSlT ma ml mh) := by
  obtain ⟨ta, pa, qa⟩ := ha
  obtain ⟨tl, pl, ql⟩ := hl
  obtain ⟨th, ph, qh⟩ := hh
  refine ⟨_, pe_slice sl_tupA pa pl ph, fun B G H σ S Q R h => ?_⟩
  refine qa B G H σ S _ R ?_
  unfold mSlT at h
  cases hm : ma S with
  | bad => rw [hm] at h; exact h
  | err c pl S' => rw [hm] at h; exact h
  | ok d S' =>
    rw [hm, Rs.bind_ok] at h
    intro v G1 H1 e1 R1 d1
    refine ql B G1 H1 σ S' _ R1 ?_
    cases hn : ml S' with
    | bad => rw [hn] at h; exact h
    | err c pl S2 => rw [hn] at h; exact fun cls dd G' H' e => h cls dd G' H' (e1.trans e)
    | ok l S2 =>
      rw [hn, Rs.bind_ok] at h
      intro G2 H2 e2 R2
      refine qh B G2 H2 σ S2 _ R2 ?_
      cases hq : mh S2 with
      | bad => rw [hq] at h; exact h
      | err c pl S3 => rw [hq] at h; exact fun cls dd G' H' e => h cls dd G' H' ((e1.trans e2).trans e)
      | ok u S3 =>
        rw [hq, Rs.bind_ok] at h
        intro G3 H3 e3 R3
        cases d1 with
        | tup h1 hs1 =>
          rename_i aa xs ds
          have ht := ex_t (e2.trans e3) h1
          have hs := hs1.mono (e2.trans e3)
          have ln := hs.length
          refine ⟨_, _, rfl, ex_t R3.gh ht, fun z => ?_, fun z p hp => ?_⟩
          · rw [ln] at z
            refine h _ G3 H3 ((e1.trans e2).trans e3) R3 ?_
            rw [cutD_whole z]
            exact .tup ht hs
          · have al : Alc G3 H3 _ _ := .inr ⟨p, .tup (cutV xs l u), hp, rfl, rfl⟩
            exact h _ _ _ (((e1.trans e2).trans e3).trans (al.ex R3.gh)) (R3.alc al) (.tup (SqT.of upd_same) ((hs.cut l u).mono (al.ex R3.gh)))
        | _ => exact h.elim
theorem gl_slL (ha : GE X W a ma) (hl : GO X W lo ml) (hh : GO X W hi mh) : GL X W (.Subscript a (.Slice lo hi none p2) pos) (mSlL ma ml mh) := by
  obtain ⟨ta, pa, qa⟩ := ha
  obtain ⟨tl, pl, ql⟩ := hl
  obtain ⟨th, ph, qh⟩ := hh
  refine ⟨_, pe_slice sl_list pa pl ph, fun B G H σ S Q R h => ?_⟩
  refine qa B G H σ S _ R ?_
  unfold mSlL at h
  cases hm : ma S with
  | bad => rw [hm] at h; exact h
  | err c pl S' => rw [hm] at h; exact h
  | ok d S' =>
    rw [hm, Rs.bind_ok] at h
    intro v G1 H1 e1 R1 d1
    refine ql B G1 H1 σ S' _ R1 ?_
    cases hn : ml S' with
    | bad => rw [hn] at h; exact h
    | err c pl S2 => rw [hn] at h; exact fun cls dd G' H' e => h cls dd G' H' (e1.trans e)
    | ok l S2 =>
      rw [hn, Rs.bind_ok] at h
      intro G2 H2 e2 R2
      refine qh B G2 H2 σ S2 _ R2 ?_
      cases hq : mh S2 with
      | bad => rw [hq] at h; exact h
      | err c pl S3 => rw [hq] at h; exact fun cls dd G' H' e => h cls dd G' H' ((e1.trans e2).trans e)
      | ok u S3 =>
        rw [hq, Rs.bind_ok] at h
        intro G3 H3 e3 R3
        cases d1 with
        | lst h1 hs1 =>
          have ht := (e2.trans e3) _ _ h1
          have hs := hs1.mono (e2.trans e3)
          refine ⟨_, _, rfl, SqL.of (R3.gh _ _ ht), fun p hp => ?_⟩
          exact h p _ G3 _ ((e1.trans e2).trans e3) (R3.loose hp) upd_same (hs.cut l u) (fresh_back R3.gh hp) (R3.noB hp) (R3.noS hp)
        | _ => exact h.elim
end

/-! ### lists by operators -/
/-- an operation that makes a new list -/
def OpL (K : PySem.W.Frag) (r : R2) (f : D → D → Option (List D)) : Prop :=
  ∀ (x y : V) (a b : D) (ds : List D) (G H : Hp) (Q : VK), f a b = some ds → DP K G x a → DP K G y b → Ex G H → (∀ p vs, H p = none → DPs K G vs ds → Q (.ref p) (upd H p (.lst vs))) → r x y H Q
def mBinL (f : D → D → Option (List D)) (ma mb : M D) : M (List D) := fun S => (ma S).bind fun a S1 => (mb S1).bind fun b S2 => Rs.lift (f a b) S2
def dCat : D → D → Option (List D)
  | .lst a, .lst b => if a.length + b.length ≤ cap then some (a ++ b) else none
  | _, _ => none
def dRep : D → D → Option (List D)
  | .lst a, .int k => if -(2 ^ 63) ≤ k ∧ k < 2 ^ 63 ∧ a.length * k.toNat ≤ cap then some (List.replicate k.toNat a).flatten else none
  | _, _ => none
section
variable {K : PySem.W.Frag} {X : Cx} {W : WX} {a b : Expr} {ma mb : M D} {pos : Pos}
theorem ol_cat : OpL K rCat dCat := by
  intro x y a b ds G H Q e dx dy gh k
  unfold dCat at e
  split at e
  · split at e
    · rename_i hc
      cases e
      cases dx with
      | lst h1 hs1 =>
      cases dy with
      | lst h2 hs2 => exact ⟨_, _, _, _, rfl, rfl, gh _ _ h1, gh _ _ h2, by rw [hs1.length, hs2.length]; exact cap_le hc, fun p hp => k p _ hp (hs1.append hs2)⟩
    · cases e
  · cases e
theorem ol_rep : OpL K rRep dRep := by
  intro x y a b ds G H Q e dx dy gh k
  unfold dRep at e
  split at e
  · split at e
    · rename_i hc
      cases e
      cases dx with
      | lst h1 hs1 =>
      cases dy
      exact ⟨_, _, _, rfl, rfl, gh _ _ h1, hc.1, hc.2.1, by rw [hs1.length]; exact cap_le hc.2.2, fun p hp => k p _ hp (hs1.rep _)⟩
    · cases e
  · cases e
theorem gl_op {op : Operator} {r : R2} {f : D → D → Option (List D)} (hr : OpR X (binaryOp op) r) (ho : OpL X.K r f) (ha : GE X W a ma) (hb : GE X W b mb) : GL X W (.BinOp a op b pos) (mBinL f ma mb) := by
  obtain ⟨ta, pa, qa⟩ := ha
  obtain ⟨tb, pb, qb⟩ := hb
  refine ⟨_, pe_op hr pa pb, fun B G H σ S Q R h => ?_⟩
  unfold mBinL at h
  refine qa B G H σ S _ R ?_
  cases hm : ma S with
  | bad => rw [hm] at h; exact h
  | err c pl S' => rw [hm] at h; exact h
  | ok d S' =>
    rw [hm, Rs.bind_ok] at h
    intro v G1 H1 e1 R1 d1
    refine qb B G1 H1 σ S' _ R1 ?_
    cases hn : mb S' with
    | bad => rw [hn] at h; exact h
    | err c pl S2 => rw [hn] at h; exact PoL.mono (r := .err c pl S2) (Q := Q) e1 h
    | ok d' S2 =>
      rw [hn, Rs.bind_ok] at h
      intro u G2 H2 e2 R2 d2
      cases hf : f d d' with
      | none => rw [hf] at h; exact h.elim
      | some z =>
        rw [hf] at h
        exact ho v u d d' z G2 H2 Q hf (d1.mono e2) d2 R2.gh fun p vs hp dv => h p vs G2 _ (e1.trans e2) (R2.loose hp) upd_same dv (fresh_back R2.gh hp) (R2.noB hp) (R2.noS hp)
end

/-! ### built-in functions and types, called -/
def CallD (K : PySem.W.Frag) (r : List V → Hp → VK → Prop) (f : List D → Option D) : Prop :=
  ∀ (vs : List V) (ds : List D) (d : D) (G H : Hp) (Q : VK), f ds = some d → DPs K G vs ds → Ex G H → (∀ v G' H', Alc G H G' H' → DP K G' v d → Q v H') → r vs H Q
def CallL (K : PySem.W.Frag) (r : List V → Hp → VK → Prop) (f : List D → Option (List D)) : Prop :=
  ∀ (vs : List V) (ds es : List D) (G H : Hp) (Q : VK), f ds = some es → DPs K G vs ds → Ex G H → (∀ p ws, H p = none → DPs K G ws es → Q (.ref p) (upd H p (.lst ws))) → r vs H Q
def mCall (f : List D → Option D) (ms : M (List D)) : M D := fun S => (ms S).bind fun ds S1 => Rs.lift (f ds) S1
def mCallL (f : List D → Option (List D)) (ms : M (List D)) : M (List D) := fun S => (ms S).bind fun ds S1 => Rs.lift (f ds) S1
section
variable {X : Cx} {W : WX} {x : Str} {p pos : Pos} {e : Expr} {es : List Expr} {ms : M (List D)} {r : List V → Hp → VK → Prop} {f : List D → Option D} {fl : List D → Option (List D)} {id T : String}
theorem call_out {t : TA} (qa : ∀ B G H σ S Q, Rel X.K B G H σ S → PoA X.K X.mg B W σ G (ms S) Q → t σ H Q) (ho : CallD X.K r f) :
    ∀ B G H σ S Q, Rel X.K B G H σ S → PoE X.K X.mg B W σ G (mCall f ms S) Q → tCB r t σ H Q := fun B G H σ S Q R h => by
  refine qa B G H σ S _ R ?_
  unfold mCall at h
  cases hm : ms S with
  | bad => rw [hm] at h; exact h
  | err c pl S' => rw [hm] at h; exact h
  | ok ds S' =>
    rw [hm, Rs.bind_ok] at h
    intro vs G1 H1 e1 R1 d1
    cases hf : f ds with
    | none => rw [hf] at h; exact h.elim
    | some z =>
      rw [hf] at h
      exact ho vs ds z G1 H1 Q hf d1 R1.gh fun w G3 H3 al d3 => h w G3 H3 (e1.trans (al.ex R1.gh)) (R1.alc al) d3
theorem callL_out {t : TA} (qa : ∀ B G H σ S Q, Rel X.K B G H σ S → PoA X.K X.mg B W σ G (ms S) Q → t σ H Q) (ho : CallL X.K r fl) :
    ∀ B G H σ S Q, Rel X.K B G H σ S → PoL X.K X.mg B W σ G (mCallL fl ms S) Q → tCB r t σ H Q := fun B G H σ S Q R h => by
  refine qa B G H σ S _ R ?_
  unfold mCallL at h
  cases hm : ms S with
  | bad => rw [hm] at h; exact h
  | err c pl S' => rw [hm] at h; exact h
  | ok ds S' =>
    rw [hm, Rs.bind_ok] at h
    intro vs G1 H1 e1 R1 d1
    cases hf : fl ds with
    | none => rw [hf] at h; exact h.elim
    | some z =>
      rw [hf] at h
      exact ho vs ds z G1 H1 Q hf d1 R1.gh fun p ws hp dv => h p ws G1 _ e1 (R1.loose hp) upd_same dv (fresh_back R1.gh hp) (R1.noB hp) (R1.noS hp)
theorem ge_callB (hc : CallR X (.builtin id) r) (ho : CallD X.K r f) (hm : X.mg x = none) (hv : bootBuiltins x = some (.builtin id)) (ha : GA X W (e :: es) ms) (hg : Gl X x := by rfl) (hn : x ≠ "__name__" := by decide) (hdb : (x == ("__debug__" : Str)) = false := by decide)
    (he : starEach (e :: es) X.env = (false, eval e X.env) :: starEach es X.env := by rfl) (hpl : (backTo pos (starEach es X.env)).any (·.1) = false := by rfl) : GE X W (.Call (.Name x p) (e :: es) [] pos) (mCall f ms) := by
  obtain ⟨ta, pa, qa⟩ := ha
  exact ⟨_, pe_callB hc hg hm hv pa hn hdb he hpl, call_out qa ho⟩
theorem ge_callTy (hc : CallR X (.type T) r) (ho : CallD X.K r f) (hm : X.mg x = none) (hv : bootBuiltins x = some (.type T)) (ha : GA X W (e :: es) ms) (hg : Gl X x := by rfl) (hn : x ≠ "__name__" := by decide) (hdb : (x == ("__debug__" : Str)) = false := by decide)
    (he : starEach (e :: es) X.env = (false, eval e X.env) :: starEach es X.env := by rfl) (hpl : (backTo pos (starEach es X.env)).any (·.1) = false := by rfl) : GE X W (.Call (.Name x p) (e :: es) [] pos) (mCall f ms) := by
  obtain ⟨ta, pa, qa⟩ := ha
  exact ⟨_, pe_callTy hc hg hm hv pa hn hdb he hpl, call_out qa ho⟩
theorem gl_callB (hc : CallR X (.builtin id) r) (ho : CallL X.K r fl) (hm : X.mg x = none) (hv : bootBuiltins x = some (.builtin id)) (ha : GA X W (e :: es) ms) (hg : Gl X x := by rfl) (hn : x ≠ "__name__" := by decide) (hdb : (x == ("__debug__" : Str)) = false := by decide)
    (he : starEach (e :: es) X.env = (false, eval e X.env) :: starEach es X.env := by rfl) (hpl : (backTo pos (starEach es X.env)).any (·.1) = false := by rfl) : GL X W (.Call (.Name x p) (e :: es) [] pos) (mCallL fl ms) := by
  obtain ⟨ta, pa, qa⟩ := ha
  exact ⟨_, pe_callB hc hg hm hv pa hn hdb he hpl, callL_out qa ho⟩
theorem gl_callTy (hc : CallR X (.type T) r) (ho : CallL X.K r fl) (hm : X.mg x = none) (hv : bootBuiltins x = some (.type T)) (ha : GA X W (e :: es) ms) (hg : Gl X x := by rfl) (hn : x ≠ "__name__" := by decide) (hdb : (x == ("__debug__" : Str)) = false := by decide)
    (he : starEach (e :: es) X.env = (false, eval e X.env) :: starEach es X.env := by rfl) (hpl : (backTo pos (starEach es X.env)).any (·.1) = false := by rfl) : GL X W (.Call (.Name x p) (e :: es) [] pos) (mCallL fl ms) := by
  obtain ⟨ta, pa, qa⟩ := ha
  exact ⟨_, pe_callTy hc hg hm hv pa hn hdb he hpl, callL_out qa ho⟩
end
section
variable {K : PySem.W.Frag} {X : Cx}
def dLen : List D → Option D
  | [.str y] => if y.length ≤ cap then some (.int y.length) else none
  | [.lst ds] => some (.int ds.length)
  | [.tup ds] => some (.int ds.length)
  | [.scr ns] => some (.int ns.length)
  | _ => none
theorem cd_len : CallD K (fun xs H Q => ∃ x n, xs = [x] ∧ LenV K x H n ∧ Q (.int n) H) dLen := by
  intro vs ds d G H Q e hs gh k
  unfold dLen at e
  split at e
  · split at e
    · rename_i hz
      cases e
      cases hs with
      | cons h1 h2 =>
        cases h2
        cases h1
        exact ⟨_, _, rfl, ⟨cap_le hz, rfl⟩, k _ G H .refl (.int _)⟩
    · cases e
  · cases e
    cases hs with
    | cons h1 h2 =>
      cases h2
      cases h1 with
      | lst h3 h4 => exact ⟨_, _, rfl, .inl ⟨_, SqL.of (gh _ _ h3), rfl⟩, by rw [h4.length]; exact k _ G H .refl (.int _)⟩
  · cases e
    cases hs with
    | cons h1 h2 =>
      cases h2
      cases h1 with
      | tup h3 h4 => exact ⟨_, _, rfl, .inr ⟨_, ex_t gh h3, rfl⟩, by rw [h4.length]; exact k _ G H .refl (.int _)⟩
  · cases e
    cases hs with
    | cons h1 h2 =>
      cases h2
      cases h1 with
      | scr h3 => exact ⟨_, _, rfl, .inl ⟨_, ex_l gh h3, rfl⟩, by rw [List.length_map]; exact k _ G H .refl (.int _)⟩
  · cases e
def dAbs : List D → Option D
  | [.int i] => some (.int (if i < 0 then -i else i))
  | _ => none
theorem cd_abs : CallD K (fun xs H Q => ∃ i, xs = [.int i] ∧ Q (.int (if i < 0 then -i else i)) H) dAbs := by
  intro vs ds d G H Q e hs gh k
  unfold dAbs at e
  split at e
  · cases e
    cases hs with
    | cons h1 h2 =>
      cases h2
      cases h1
      exact ⟨_, rfl, k _ G H .refl (.int _)⟩
  · cases e
def dMax2 : List D → Option D
  | [.int i, .int j] => some (.int (if j > i then j else i))
  | _ => none
theorem cd_max2 : CallD K (fun xs H Q => ∃ i j, xs = [.int i, .int j] ∧ Q (.int (if j > i then j else i)) H) dMax2 := by
  intro vs ds d G H Q e hs gh k
  unfold dMax2 at e
  split at e
  · cases e
    cases hs with
    | cons h1 h2 =>
      cases h2 with
      | cons h3 h4 =>
        cases h4
        cases h1
        cases h3
        exact ⟨_, _, rfl, k _ G H .refl (.int _)⟩
  · cases e
def dMin2 : List D → Option D
  | [.int i, .int j] => some (.int (if j < i then j else i))
  | _ => none
theorem cd_min2 : CallD K (fun xs H Q => ∃ i j, xs = [.int i, .int j] ∧ Q (.int (if j < i then j else i)) H) dMin2 := by
  intro vs ds d G H Q e hs gh k
  unfold dMin2 at e
  split at e
  · cases e
    cases hs with
    | cons h1 h2 =>
      cases h2 with
      | cons h3 h4 =>
        cases h4
        cases h1
        cases h3
        exact ⟨_, _, rfl, k _ G H .refl (.int _)⟩
  · cases e
def dInt1 : List D → Option D
  | [.int i] => some (.int i)
  | [.bl b] => some (.int (if b then 1 else 0))
  | _ => none
theorem cd_int1 : CallD K (fun xs H Q => (∃ i, xs = [.int i] ∧ Q (.int i) H) ∨ ∃ k, xs = [.bl k] ∧ Q (.int (if k then 1 else 0)) H) dInt1 := by
  intro vs ds d G H Q e hs gh k
  unfold dInt1 at e
  split at e
  · cases e
    cases hs with
    | cons h1 h2 =>
      cases h2
      cases h1
      exact .inl ⟨_, rfl, k _ G H .refl (.int _)⟩
  · cases e
    cases hs with
    | cons h1 h2 =>
      cases h2
      cases h1
      exact .inr ⟨_, rfl, k _ G H .refl (.int _)⟩
  · cases e
/-- ints of a list -/
def ints? : List D → Option (List Int)
  | [] => some []
  | .int i :: ds => (ints? ds).map (i :: ·)
  | _ => none
theorem ints?_some : ∀ {ds : List D} {ns : List Int}, ints? ds = some ns → ds = ns.map D.int
  | [], ns, e => by cases e; rfl
  | .int i :: ds, ns, e => by
    obtain ⟨ms, e1, rfl⟩ := Option.map_eq_some_iff.mp e
    rw [ints?_some e1, List.map_cons]
  | .non :: _, _, e => nomatch e
  | .bl _ :: _, _, e => nomatch e
  | .str _ :: _, _, e => nomatch e
  | .lst _ :: _, _, e => nomatch e
  | .tup _ :: _, _, e => nomatch e
  | .ins _ _ _ :: _, _, e => nomatch e
  | .scr _ :: _, _, e => nomatch e
@[simp] theorem ints?_map : ∀ ns : List Int, ints? (ns.map D.int) = some ns
  | [] => rfl
  | n :: ns => by
    rw [List.map_cons]
    show (ints? (ns.map D.int)).map (n :: ·) = _
    rw [ints?_map ns]
    rfl
def bls? : List D → Option (List Bool)
  | [] => some []
  | .bl i :: ds => (bls? ds).map (i :: ·)
  | _ => none
theorem bls?_some : ∀ {ds : List D} {ns : List Bool}, bls? ds = some ns → ds = ns.map D.bl
  | [], ns, e => by cases e; rfl
  | .bl i :: ds, ns, e => by
    obtain ⟨ms, e1, rfl⟩ := Option.map_eq_some_iff.mp e
    rw [bls?_some e1, List.map_cons]
  | .non :: _, _, e => nomatch e
  | .int _ :: _, _, e => nomatch e
  | .str _ :: _, _, e => nomatch e
  | .lst _ :: _, _, e => nomatch e
  | .tup _ :: _, _, e => nomatch e
  | .ins _ _ _ :: _, _, e => nomatch e
  | .scr _ :: _, _, e => nomatch e
@[simp] theorem bls?_map : ∀ ns : List Bool, bls? (ns.map D.bl) = some ns
  | [] => rfl
  | n :: ns => by
    rw [List.map_cons]
    show (bls? (ns.map D.bl)).map (n :: ·) = _
    rw [bls?_map ns]
    rfl
def dSum : List D → Option D
  | [.lst ds] => (ints? ds).map fun ns => .int ns.sum
  | _ => none
theorem cd_sum : CallD K (rSum K) dSum := by
  intro vs ds d G H Q e hs gh k
  unfold dSum at e
  split at e
  · obtain ⟨ns, e1, rfl⟩ := Option.map_eq_some_iff.mp e
    have e2 := ints?_some e1
    subst e2
    cases hs with
    | cons h1 h2 =>
      cases h2
      cases h1 with
      | lst h3 h4 =>
        have e3 := h4.ints
        subst e3
        exact ⟨_, ns, rfl, SqL.of (gh _ _ h3), k _ G H .refl (.int _)⟩
  · cases e
def dAll : List D → Option D
  | [.lst ds] => (bls? ds).map fun ns => .bl (ns.all id)
  | _ => none
theorem cd_all : CallD K (rAll K) dAll := by
  intro vs ds d G H Q e hs gh k
  unfold dAll at e
  split at e
  · obtain ⟨ns, e1, rfl⟩ := Option.map_eq_some_iff.mp e
    have e2 := bls?_some e1
    subst e2
    cases hs with
    | cons h1 h2 =>
      cases h2
      cases h1 with
      | lst h3 h4 =>
        have e3 := h4.bls
        subst e3
        exact ⟨_, ns, rfl, SqL.of (gh _ _ h3), k _ G H .refl (.bl _)⟩
  · cases e
def dAny : List D → Option D
  | [.lst ds] => (bls? ds).map fun ns => .bl (ns.any id)
  | _ => none
theorem cd_any : CallD K (rAny K) dAny := by
  intro vs ds d G H Q e hs gh k
  unfold dAny at e
  split at e
  · obtain ⟨ns, e1, rfl⟩ := Option.map_eq_some_iff.mp e
    have e2 := bls?_some e1
    subst e2
    cases hs with
    | cons h1 h2 =>
      cases h2
      cases h1 with
      | lst h3 h4 =>
        have e3 := h4.bls
        subst e3
        exact ⟨_, ns, rfl, SqL.of (gh _ _ h3), k _ G H .refl (.bl _)⟩
  · cases e
/-- tuple(x), list(x) -/
def dTuple : List D → Option D
  | [.lst ds] => some (.tup ds)
  | [.tup ds] => some (.tup ds)
  | _ => none
theorem cd_tuple : CallD K (fun xs H Q => ∃ p ys, xs = [.ref p] ∧ ((SqL K H p ys ∧ ∀ l, H l = none → Q (.ref l) (upd H l (.tup ys))) ∨ (SqT K H p ys ∧ Q (.ref p) H))) dTuple := by
  intro vs ds d G H Q e hs gh k
  unfold dTuple at e
  split at e
  · cases e
    cases hs with
    | cons h1 h2 =>
      cases h2
      cases h1 with
      | lst h3 h4 =>
        rename_i aa xs
        refine ⟨_, _, rfl, .inl ⟨SqL.of (gh _ _ h3), fun l hl => ?_⟩⟩
        have al : Alc G H _ _ := .inr ⟨l, .tup xs, hl, rfl, rfl⟩
        exact k _ _ _ al (.tup (SqT.of upd_same) (h4.mono (al.ex gh)))
  · cases e
    cases hs with
    | cons h1 h2 =>
      cases h2
      cases h1 with
      | tup h3 h4 => exact ⟨_, _, rfl, .inr ⟨ex_t gh h3, k _ G H .refl (.tup h3 h4)⟩⟩
  · cases e
def dList : List D → Option (List D)
  | [.lst ds] => some ds
  | [.tup ds] => some ds
  | [.scr ns] => some (ns.map .int)
  | _ => none
theorem cl_list : CallL K (fun xs H Q => ∃ p ys, xs = [.ref p] ∧ (SqL K H p ys ∨ SqT K H p ys) ∧ ∀ l, H l = none → Q (.ref l) (upd H l (.lst ys))) dList := by
  intro vs ds es G H Q e hs gh k
  unfold dList at e
  split at e
  · cases e
    cases hs with
    | cons h1 h2 =>
      cases h2
      cases h1 with
      | lst h3 h4 => exact ⟨_, _, rfl, .inl (SqL.of (gh _ _ h3)), fun l hl => k l _ hl h4⟩
  · cases e
    cases hs with
    | cons h1 h2 =>
      cases h2
      cases h1 with
      | tup h3 h4 => exact ⟨_, _, rfl, .inr (ex_t gh h3), fun l hl => k l _ hl h4⟩
  · cases e
    cases hs with
    | cons h1 h2 =>
      cases h2
      cases h1 with
      | scr h3 => exact ⟨_, _, rfl, .inl (ex_l gh h3), fun l hl => k l _ hl (DPs.of_ints _)⟩
  · cases e
end
end Q4


set_option Elab.async false
set_option linter.all false
set_option maxRecDepth 100000
set_option maxHeartbeats 4000000
/-! Part C: targets, what is walked, comprehensions, statements, loops. -/
namespace Q4
open PySem PySem.Spec PyProof.Rows L2 Evl

/-! ### a slot is stored -/
section
variable {K : PySem.W.Frag} {B : Bs} {G H : Hp} {σ : L2.St} {S : SS}
theorem Rel.put {i : Nat} {v : V} {s : SV} (R : Rel K B G H σ S) (hi : i < S.length) (hm : ∀ m ∈ B.M, m.1 ≠ i) (ok : SlotOk K B G H i (σ.set i (some v)) s)
    (fresh : ∀ (j : Nat) (xs ys : List D), j ≠ i → s = SV.ow xs → S[j]? = some (SV.ow ys) → σ[j]? ≠ some (some v)) : Rel K B G H (σ.set i (some v)) (S.set i s) := by
  have hσ : i < σ.length := by rw [R.ln]; exact hi
  refine ⟨R.gh, R.gg, R.fr, R.kp, by rw [List.length_set, List.length_set]; exact R.ln, fun j t h => ?_, fun j k xs ys hjk hj hk => ?_, fun m h => ?_, R.mh⟩
  · by_cases e : j = i
    · subst e
      rw [List.getElem?_set_self hi] at h
      cases h
      exact ok
    · rw [List.getElem?_set_ne (Ne.symm e)] at h
      have q := R.sl j t h
      cases t with
      | no => trivial
      | fz d =>
        obtain ⟨w, h1, h2⟩ := q
        exact ⟨w, by rw [List.getElem?_set_ne (Ne.symm e)]; exact h1, h2⟩
      | ow ds =>
        obtain ⟨l, vs, h1, h2, h3, h4, h5⟩ := q
        exact ⟨l, vs, by rw [List.getElem?_set_ne (Ne.symm e)]; exact h1, h2, h3, h4, h5⟩
  · by_cases ej : j = i
    · subst ej
      have hk' : k ≠ j := Ne.symm hjk
      rw [List.getElem?_set_self hi] at hj
      rw [List.getElem?_set_ne hjk] at hk
      rw [List.getElem?_set_self hσ, List.getElem?_set_ne hjk]
      exact fun z => fresh k xs ys hk' (Option.some.inj hj) hk z.symm
    · rw [List.getElem?_set_ne (Ne.symm ej)] at hj ⊢
      by_cases ek : k = i
      · subst ek
        rw [List.getElem?_set_self hi] at hk
        rw [List.getElem?_set_self hσ]
        exact fun z => fresh j ys xs ej (Option.some.inj hk) hj z
      · rw [List.getElem?_set_ne (Ne.symm ek)] at hk ⊢
        exact R.ds j k xs ys hjk hj hk
  · rw [List.getElem?_set_ne (Ne.symm (hm m h))]
    exact R.mm m h
theorem Rel.putF {i : Nat} {v : V} {d : D} (R : Rel K B G H σ S) (hi : i < S.length) (hm : ∀ m ∈ B.M, m.1 ≠ i) (dv : DP K G v d) : Rel K B G H (σ.set i (some v)) (S.set i (.fz d)) :=
  R.put hi hm ⟨v, List.getElem?_set_self (by rw [R.ln]; exact hi), dv⟩ fun _ _ _ _ e => nomatch e
theorem Rel.putO {i : Nat} {p : Addr} {vs : List V} {ds : List D} (R : Rel K B G H σ S) (hi : i < S.length) (hm : ∀ m ∈ B.M, m.1 ≠ i) (hp : H p = some (.lst vs)) (dv : DPs K G vs ds) (gp : G p = none) (bp : B.H p = none)
    (ns : ∀ (i : Nat) (xs : List D), S[i]? = some (SV.ow xs) → σ[i]? ≠ some (some (V.ref p))) : Rel K B G H (σ.set i (some (.ref p))) (S.set i (.ow ds)) :=
  R.put hi hm ⟨p, vs, List.getElem?_set_self (by rw [R.ln]; exact hi), hp, dv, gp, .inl bp⟩ fun j _ ys _ _ hj => ns j ys hj
/-- an owned list is written -/
theorem Rel.wr {i : Nat} {l : Addr} {ds es : List D} {vs ws : List V} (R : Rel K B G H σ S) (hs : S[i]? = some (SV.ow ds)) (hσ : σ[i]? = some (some (.ref l))) (hl : H l = some (.lst vs)) (dw : DPs K G ws es) :
    Rel K B G (upd H l (.lst ws)) σ (S.set i (.ow es)) := by
  obtain ⟨l', vs', h1, h2, h3, h4, h5⟩ := R.sl i _ hs
  rw [hσ] at h1
  cases h1
  have hi : i < S.length := (List.getElem?_eq_some_iff.mp hs).1
  refine ⟨R.gh.mut h4, R.gg, R.fr, fun a u h hm => ?_, by rw [List.length_set]; exact R.ln, fun j t h => ?_, fun j k xs ys hjk hj hk => ?_, R.mm, fun m hm => ?_⟩
  · have : a ≠ l := fun e => by
      subst e
      rcases h5 with q | q
      · rw [q] at h
        cases h
      · exact hm _ q rfl
    rw [upd_ne this]
    exact R.kp a u h hm
  · by_cases e : j = i
    · subst e
      rw [List.getElem?_set_self hi] at h
      cases h
      exact ⟨l, ws, hσ, upd_same, dw, h4, h5⟩
    · rw [List.getElem?_set_ne (Ne.symm e)] at h
      have q := R.sl j t h
      cases t with
      | no => trivial
      | fz d => exact q
      | ow fs =>
        obtain ⟨l2, vs2, q1, q2, q3, q4, q5⟩ := q
        have : l2 ≠ l := fun z => R.ds j i fs ds e h hs (by rw [q1, hσ, z])
        exact ⟨l2, vs2, q1, by rw [upd_ne this]; exact q2, q3, q4, q5⟩
  · have rd : ∀ {j : Nat} {zs : List D}, (S.set i (SV.ow es))[j]? = some (SV.ow zs) → ∃ zs', S[j]? = some (SV.ow zs') := fun {j zs} h => by
      by_cases e : j = i
      · subst e
        exact ⟨ds, hs⟩
      · rw [List.getElem?_set_ne (Ne.symm e)] at h
        exact ⟨zs, h⟩
    obtain ⟨xs', hx⟩ := rd hj
    obtain ⟨ys', hy⟩ := rd hk
    exact R.ds j k xs' ys' hjk hx hy
  · by_cases e : m.2 = l
    · rw [e]
      exact ⟨_, upd_same⟩
    · rw [upd_ne e]
      exact R.mh m hm
end

/-! ### targets -/
abbrev GF := D → SS → Option SS
abbrev GFs := List D → SS → Option SS
def NoM (mp : List Nat) (B : Bs) : Prop := ∀ m ∈ B.M, m.1 ∈ mp
/-- a target: the slots that it stores to, the state behind it -/
def GG (X : Cx) (tg : Expr) (is : List Nat) (g : GF) : Prop :=
  ∃ t : TG, PG X tg t ∧ ∀ (B : Bs) (G H : Hp) (σ : L2.St) (S S' : SS) (v : V) (d : D) (Q : L2.St → Hp → Prop), (∀ m ∈ B.M, m.1 ∉ is) → Rel X.K B G H σ S → DP X.K G v d → g d S = some S' →
    (∀ σ', Rel X.K B G H σ' S' → (∀ vs : List Nat, (∀ i ∈ is, i ∈ vs) → wipe σ' vs = wipe σ vs) → Q σ' H) → t v σ H Q
def GGs (X : Cx) (tgs : List Expr) (is : List Nat) (g : GFs) : Prop :=
  ∃ t : TGs, PGs X tgs t ∧ ∀ (B : Bs) (G H : Hp) (σ : L2.St) (S S' : SS) (vs : List V) (ds : List D) (Q : L2.St → Hp → Prop), (∀ m ∈ B.M, m.1 ∉ is) → Rel X.K B G H σ S → DPs X.K G vs ds → g ds S = some S' →
    (∀ σ', Rel X.K B G H σ' S' → (∀ ws : List Nat, (∀ i ∈ is, i ∈ ws) → wipe σ' ws = wipe σ ws) → Q σ' H) → t vs σ H Q
theorem wipe_get (σ : L2.St) (j : Nat) : ∀ vs : List Nat, (wipe σ vs)[j]? = if j ∈ vs then (if j < σ.length then some none else none) else σ[j]?
  | [] => by simp [wipe]
  | v :: vs => by
    unfold wipe
    by_cases e : j = v
    · subst e
      rw [if_pos List.mem_cons_self]
      by_cases h : j < σ.length
      · rw [List.getElem?_set_self (by rw [wipe_length]; exact h), if_pos h]
      · rw [List.getElem?_eq_none (by rw [List.length_set, wipe_length]; omega), if_neg h]
    · rw [List.getElem?_set_ne (Ne.symm e), wipe_get σ j vs]
      by_cases h : j ∈ vs
      · rw [if_pos h, if_pos (List.mem_cons_of_mem _ h)]
      · rw [if_neg h, if_neg (by simp [e, h])]
theorem wipe_set {σ : L2.St} {i : Nat} {x : Option V} {vs : List Nat} (h : i ∈ vs) : wipe (σ.set i x) vs = wipe σ vs := by
  refine List.ext_getElem? fun j => ?_
  rw [wipe_get, wipe_get, List.length_set]
  by_cases e : j ∈ vs
  · rw [if_pos e, if_pos e]
  · rw [if_neg e, if_neg e, List.getElem?_set_ne (fun z => e (by rw [← z]; exact h))]
theorem wipe_wipe (σ : L2.St) (vs : List Nat) : wipe (wipe σ vs) vs = wipe σ vs := by
  refine List.ext_getElem? fun j => ?_
  rw [wipe_get, wipe_get, wipe_length]
  by_cases e : j ∈ vs
  · rw [if_pos e, if_pos e]
  · rw [if_neg e, if_neg e]
def gN (i : Nat) : GF := fun d S => if i < S.length then some (S.set i (.fz d)) else none
def gT (n : Nat) (g : GFs) : GF := fun d S => match d with
  | .tup ds => if ds.length = n then g ds S else none
  | _ => none
def gs0 : GFs := fun ds S => match ds with
  | [] => some S
  | _ => none
def gsC (g : GF) (gs : GFs) : GFs := fun ds S => match ds with
  | d :: ds => (g d S).bind fun S1 => gs ds S1
  | [] => none
section
variable {X : Cx} {pos : Pos}
theorem gg_name (i : Nat) {x : Str} (nd : X.N.Nodup) (hi : X.N[i]? = some x := by rfl) (hx : Loc X.env.scope x := by first | exact .inl rfl | exact .inr rfl)
    (hf : X.fn x = true ∨ X.env.scope.names.lookup x = some .local := by first | exact .inl rfl | exact .inr rfl | assumption) : GG X (.Name x pos) [i] (gN i) := by
  refine ⟨_, pg_name nd hi hx hf, fun B G H σ S S' v d Q nm R dv e k => ?_⟩
  unfold gN at e
  split at e
  · rename_i hl
    cases e
    refine k _ (R.putF hl (fun m hm' z => nm m hm' (by rw [z]; simp)) dv) fun vs h => wipe_set (h i (by simp))
  · cases e
theorem ggs_nil : GGs X [] [] gs0 := by
  refine ⟨_, pgs_nil, fun B G H σ S S' vs ds Q nm R dv e k => ?_⟩
  unfold gs0 at e
  split at e
  · cases e
    cases dv
    exact ⟨rfl, k _ R fun _ _ => rfl⟩
  · cases e
theorem ggs_cons {e : Expr} {es : List Expr} {is js : List Nat} {g : GF} {gs : GFs} (h1 : GG X e is g) (h2 : GGs X es js gs) (hs : (assignEach (e :: es) X.env).map (·.2) = assign e X.env :: (assignEach es X.env).map (·.2) := by rfl) :
    GGs X (e :: es) (is ++ js) (gsC g gs) := by
  obtain ⟨t1, p1, q1⟩ := h1
  obtain ⟨t2, p2, q2⟩ := h2
  refine ⟨_, pgs_cons p1 p2 hs, fun B G H σ S S' vs ds Q nm R dv e k => ?_⟩
  unfold gsC at e
  split at e
  · cases dv with
    | cons d1 d2 =>
      obtain ⟨S1, e1, e2⟩ := Option.bind_eq_some_iff.mp e
      refine ⟨_, _, rfl, q1 B G H σ S S1 _ _ _ (fun m hm z => nm m hm (List.mem_append_left _ z)) R d1 e1 fun σ1 R1 w1 => ?_⟩
      refine q2 B G H σ1 S1 S' _ _ Q (fun m hm z => nm m hm (List.mem_append_right _ z)) R1 d2 e2 fun σ2 R2 w2 => ?_
      exact k σ2 R2 fun ws h => (w2 ws fun i hi => h i (List.mem_append_right _ hi)).trans (w1 ws fun i hi => h i (List.mem_append_left _ hi))
  · cases e
theorem gg_tup {es : List Expr} {kk : Nat} {is : List Nat} {gs : GFs} {n : Nat} (h : GGs X es is gs) (hc : X.calm = true := by rfl) (hn : (assignEach es X.env).length = n := by rfl) (hst : (assignEach es X.env).findIdx? (·.1) = none := by rfl) :
    GG X (.Tuple es kk pos) is (gT n gs) := by
  obtain ⟨t, p, q⟩ := h
  refine ⟨_, pg_tup hc p hn hst, fun B G H σ S S' v d Q nm R dv e k => ?_⟩
  unfold gT at e
  split at e
  · split at e
    · rename_i hl
      cases dv with
      | tup h1 h2 => exact ⟨_, _, rfl, ex_t R.gh h1, by rw [h2.length]; exact hl, q B G H σ S S' _ _ Q nm R h2 e k⟩
    · cases e
  · cases e
end

/-! ### what is walked -/
def Yld (K : PySem.W.Frag) (J : It) (ds : List D) (G : Hp) : Prop :=
  ∀ (i : Nat) (G1 H : Hp), Ex G G1 → Ex G1 H → (ds.length ≤ i → J.stop i H) ∧ ∀ d, ds[i]? = some d → J.go i H ∧ ∀ x H', J.yld i H x H' → ∃ G2, Alc G1 H G2 H' ∧ DP K G2 x d
def PoI (K : PySem.W.Frag) (mg : Str → Option Value) (B : Bs) (W : WX) (σ : L2.St) (G : Hp) (r : Rs (List D)) (Q : It → Hp → Prop) : Prop := match r with
  | .ok ds S' => ∀ J G' H', Ex G G' → Rel K B G' H' σ S' → Yld K J ds G' → Q J H'
  | .err c pl S' => ∀ cls dd G' H', Ex G G' → Rel K B G' H' σ S' → ErrAt mg K G' H' c pl cls dd → W cls (some dd) σ H'
  | .bad => False
def GI (X : Cx) (W : WX) (tg iter : Expr) (m : M (List D)) : Prop :=
  ∃ wi : TI, PI X tg iter wi ∧ ∀ (B : Bs) (G H : Hp) (σ : L2.St) (S : SS) (Q : It → Hp → Prop), Rel X.K B G H σ S → PoI X.K X.mg B W σ G (m S) Q → wi σ H Q
def mItems (m : M D) : M (List D) := fun S => (m S).bind fun d S1 => match d with
  | .lst ds => .ok ds S1
  | .tup ds => .ok ds S1
  | .scr ns => .ok (ns.map .int) S1
  | _ => .bad
section
variable {X : Cx} {W : WX} {tg a : Expr} {ma : M D} {pos p : Pos} {ms : M (List D)}
/-- over a list or a tuple: the items told once, at the beginning -/
def Itq (K : PySem.W.Frag) (a : Addr) (xs : List V) (tup : Bool) : It :=
  ⟨fun i H => (if tup then SqT K H a xs else SqL K H a xs) ∧ i < xs.length, fun i H x H' => H' = H ∧ xs[i]? = some x, fun i H => (if tup then SqT K H a xs else SqL K H a xs) ∧ xs.length ≤ i⟩
theorem turn_q {P : Program} {w : World} {K : PySem.W.Frag} {tg : Expr} {a it : Addr} {xs : List V} {fp : List Addr} {tn : Nat → Heap → Prop} {tup : Bool} (T : Turn P w K tg (if tup then Itt K a else Itl K a) fp it tn) : Turn P w K tg (Itq K a xs tup) fp it tn where
  mem := T.mem
  obj := T.obj
  keep := T.keep
  self := T.self
  item := by
    intro X hP hw hK hc i pins s σ H E I hf st hg
    obtain ⟨h1, h2⟩ := hg
    cases tup with
    | true =>
      have h1' : SqT K H a xs := h1
      refine thn (T.item X hP hw hK hc i pins s σ H E I hf st ⟨xs, xs[i], h1', List.getElem?_eq_getElem h2⟩) fun r s4 ⟨u, hr, h4⟩ => ⟨u, hr, thn h4 fun _ s5 ⟨x, H5, I5, r5, y5, z5⟩ => ⟨x, H5, I5, r5, ⟨y5.1, y5.2 xs h1'⟩, z5⟩⟩
    | false =>
      have h1' : SqL K H a xs := h1
      refine thn (T.item X hP hw hK hc i pins s σ H E I hf st ⟨xs, xs[i], h1', List.getElem?_eq_getElem h2⟩) fun r s4 ⟨u, hr, h4⟩ => ⟨u, hr, thn h4 fun _ s5 ⟨x, H5, I5, r5, y5, z5⟩ => ⟨x, H5, I5, r5, ⟨y5.1, y5.2 xs h1'⟩, z5⟩⟩
  done := by
    intro X hP hw hK hc i pins s σ H E I hf st hg
    obtain ⟨h1, h2⟩ := hg
    cases tup with
    | true => exact T.done X hP hw hK hc i pins s σ H E I hf st ⟨xs, h1, h2⟩
    | false => exact T.done X hP hw hK hc i pins s σ H E I hf st ⟨xs, h1, h2⟩
def iSeq (K : PySem.W.Frag) (tl : TE) : TI := fun σ H R => tl σ H fun x H1 => ∃ a xs, x = .ref a ∧ ((SqL K H1 a xs ∧ R (Itq K a xs false) H1) ∨ (SqT K H1 a xs ∧ R (Itq K a xs true) H1))
theorem pi_seq {l : Expr} {tl : TE} (hl : PE X l tl) : PI X tg l (iSeq X.K tl) := by
  refine ⟨fun pins s σ H Q I h => ?_⟩
  refine thn (hl.run pins s σ H _ I h) fun v s1 ⟨x, H1, I1, r1, q1⟩ => ?_
  obtain ⟨a, xs, e, q⟩ := q1
  subst e
  cases r1
  have fp : ∀ b ∈ [s1.heap.objs.size], FpOk X pins H1 b := fun b hb => by
    have e : b = s1.heap.objs.size := by simpa using hb
    subst e
    exact I1.fpOk (Nat.le_refl _) (I1.hok.fresh (Nat.le_refl _))
  rcases q with ⟨hq, q⟩ | ⟨hq, q⟩
  · obtain ⟨its, rv, p, hz⟩ := I1.list hq
    refine wpAny_pyIter_list p.isList ?_
    exact ⟨_, [s1.heap.objs.size], _, _, H1, rfl, I1.kept (t' := s1.toks) fun b o e => Heap.get?_push_of_some _ e, turn_q (tup := false) (turn_list a _), ⟨_, Heap.get?_push_size _ rfl, rfl, rfl⟩, fp, q⟩
  · obtain ⟨its, rv, p, hz⟩ := I1.tuple hq
    refine wpAny_pyIter_tuple (show s1.heap.IsTuple a its.toArray from p) ?_
    exact ⟨_, [s1.heap.objs.size], _, _, H1, rfl, I1.kept (t' := s1.toks) fun b o e => Heap.get?_push_of_some _ e, turn_q (tup := true) (turn_tuple a _), ⟨_, Heap.get?_push_size _ rfl, rfl, rfl⟩, fp, q⟩
theorem yld_seq {K : PySem.W.Frag} {a : Addr} {xs : List V} {ds : List D} {G : Hp} {tup : Bool} (h : if tup then SqT K G a xs else SqL K G a xs) (hs : DPs K G xs ds) : Yld K (Itq K a xs tup) ds G := by
  intro i G1 H e1 e2
  have h' : if tup then SqT K H a xs else SqL K H a xs := by
    cases tup with
    | true => exact ex_t (e1.trans e2) h
    | false => exact ex_l (e1.trans e2) h
  refine ⟨fun hi => ⟨h', by rw [hs.length]; exact hi⟩, fun d hd => ⟨⟨h', by rw [hs.length]; exact (List.getElem?_eq_some_iff.mp hd).1⟩, fun x H' y => ?_⟩⟩
  obtain ⟨e, hx⟩ := y
  subst e
  obtain ⟨v, hv, dv⟩ := hs.get hd
  rw [hx] at hv
  cases hv
  exact ⟨G1, .refl, dv.mono e1⟩
theorem gi_seq (ha : GE X W a ma) : GI X W tg a (mItems ma) := by
  obtain ⟨ta, pa, qa⟩ := ha
  refine ⟨_, pi_seq pa, fun B G H σ S Q R h => ?_⟩
  refine qa B G H σ S _ R ?_
  unfold mItems at h
  cases hm : ma S with
  | bad => rw [hm] at h; exact h
  | err c pl S' => rw [hm] at h; exact h
  | ok d S' =>
    rw [hm, Rs.bind_ok] at h
    intro v G1 H1 e1 R1 d1
    cases d1 with
    | lst h1 hs1 => exact ⟨_, _, rfl, .inl ⟨SqL.of (R1.gh _ _ h1), h _ G1 H1 e1 R1 (yld_seq (tup := false) (SqL.of h1) hs1)⟩⟩
    | scr h1 => exact ⟨_, _, rfl, .inl ⟨ex_l R1.gh h1, h _ G1 H1 e1 R1 (yld_seq (tup := false) h1 (DPs.of_ints _))⟩⟩
    | tup h1 hs1 => exact ⟨_, _, rfl, .inr ⟨ex_t R1.gh h1, h _ G1 H1 e1 R1 (yld_seq (tup := true) h1 hs1)⟩⟩
    | _ => exact h.elim
/-- ints lo, lo + c, .. -/
def rngD (lo c : Int) (n : Nat) : List D := (List.range n).map fun (i : Nat) => .int (lo + (i : Int) * c)
theorem yld_rng {K : PySem.W.Frag} {lo : Int} {n : Nat} {G : Hp} : Yld K (Itr lo n) (rngD lo 1 n) G := by
  intro i G1 H e1 e2
  refine ⟨fun hi => ?_, fun d hd => ?_⟩
  · rw [rngD, List.length_map, List.length_range] at hi
    exact hi
  · have hi : i < n := by
      have := (List.getElem?_eq_some_iff.mp hd).1
      rwa [rngD, List.length_map, List.length_range] at this
    rw [rngD, List.getElem?_map, List.getElem?_range hi] at hd
    cases hd
    refine ⟨hi, fun x H' y => ?_⟩
    obtain ⟨rfl, rfl⟩ := y
    have e : (D.int (lo + (i : Int) * 1)) = .int (lo + (i : Int)) := by rw [Int.mul_one]
    exact ⟨G1, .refl, by show DP K G1 (V.int (lo + (i : Int))) (D.int (lo + (i : Int) * 1)); rw [e]; exact .int _⟩
theorem yld_rngC {K : PySem.W.Frag} {lo c : Int} {n : Nat} {G : Hp} : Yld K (Itc lo c n) (rngD lo c n) G := by
  intro i G1 H e1 e2
  refine ⟨fun hi => ?_, fun d hd => ?_⟩
  · rw [rngD, List.length_map, List.length_range] at hi
    exact hi
  · have hi : i < n := by
      have := (List.getElem?_eq_some_iff.mp hd).1
      rwa [rngD, List.length_map, List.length_range] at this
    rw [rngD, List.getElem?_map, List.getElem?_range hi] at hd
    cases hd
    refine ⟨hi, fun x H' y => ?_⟩
    obtain ⟨rfl, rfl⟩ := y
    exact ⟨G1, .refl, .int _⟩
def mRng1 (ms : M (List D)) : M (List D) := fun S => (ms S).bind fun ds S1 => match ds with
  | [.int j] => if -(2 ^ 62) ≤ j ∧ j < 2 ^ 62 then .ok (rngD 0 1 j.toNat) S1 else .bad
  | _ => .bad
def mRng2 (ms : M (List D)) : M (List D) := fun S => (ms S).bind fun ds S1 => match ds with
  | [.int i, .int j] => if (-(2 ^ 62) ≤ i ∧ i < 2 ^ 62) ∧ -(2 ^ 62) ≤ j ∧ j < 2 ^ 62 then .ok (rngD i 1 (j - i).toNat) S1 else .bad
  | _ => .bad
/-- downwards by ones -/
def mRng3 (ms : M (List D)) : M (List D) := fun S => (ms S).bind fun ds S1 => match ds with
  | [.int i, .int j, .int c] => if c = -1 ∧ (-(2 ^ 62) ≤ i ∧ i < 2 ^ 62) ∧ -(2 ^ 62) ≤ j ∧ j < 2 ^ 62 then .ok (rngD i (-1) (i - j).toNat) S1 else .bad
  | _ => .bad
theorem gi_range1 (hm : X.mg "range" = none) (ha : GA X W [a] ms) (hg : Gl X "range" := by rfl) (hs : starEach [a] X.env = [(false, eval a X.env)] := by rfl) : GI X W tg (.Call (.Name "range" p) [a] [] pos) (mRng1 ms) := by
  obtain ⟨ta, pa, qa⟩ := ha
  refine ⟨_, pi_range1 hg hm pa hs, fun B G H σ S Q R h => ?_⟩
  refine qa B G H σ S _ R ?_
  unfold mRng1 at h
  cases hm : ms S with
  | bad => rw [hm] at h; exact h
  | err c pl S' => rw [hm] at h; exact h
  | ok ds S' =>
    rw [hm, Rs.bind_ok] at h
    intro vs G1 H1 e1 R1 d1
    split at h
    · split at h
      · rename_i hz
        cases d1 with
        | cons h1 h2 =>
          cases h1
          cases h2
          exact ⟨_, rfl, hz.1, hz.2, h _ G1 H1 e1 R1 yld_rng⟩
      · exact h.elim
    · exact h.elim
theorem gi_range2 {b : Expr} (hm : X.mg "range" = none) (ha : GA X W [a, b] ms) (hg : Gl X "range" := by rfl) (hs : starEach [a, b] X.env = [(false, eval a X.env), (false, eval b X.env)] := by rfl) (hs2 : starEach [b] X.env = [(false, eval b X.env)] := by rfl) :
    GI X W tg (.Call (.Name "range" p) [a, b] [] pos) (mRng2 ms) := by
  obtain ⟨ta, pa, qa⟩ := ha
  refine ⟨_, pi_range2 hg hm pa hs hs2, fun B G H σ S Q R h => ?_⟩
  refine qa B G H σ S _ R ?_
  unfold mRng2 at h
  cases hm : ms S with
  | bad => rw [hm] at h; exact h
  | err c pl S' => rw [hm] at h; exact h
  | ok ds S' =>
    rw [hm, Rs.bind_ok] at h
    intro vs G1 H1 e1 R1 d1
    split at h
    · split at h
      · rename_i hz
        cases d1 with
        | cons h1 h2 =>
          cases h1
          cases h2 with
          | cons h3 h4 =>
            cases h3
            cases h4
            exact ⟨_, _, rfl, ⟨hz.1.1, hz.1.2, hz.2.1, hz.2.2⟩, h _ G1 H1 e1 R1 yld_rng⟩
      · exact h.elim
    · exact h.elim
theorem gi_range3 {b c : Expr} (hm : X.mg "range" = none) (ha : GA X W [a, b, c] ms) (hg : Gl X "range" := by rfl) (hs : starEach [a, b, c] X.env = (false, eval a X.env) :: starEach [b, c] X.env := by rfl) (hpl : (backTo pos (starEach [b, c] X.env)).any (·.1) = false := by rfl) :
    GI X W tg (.Call (.Name "range" p) [a, b, c] [] pos) (mRng3 ms) := by
  obtain ⟨ta, pa, qa⟩ := ha
  refine ⟨_, pi_range3 hg hm pa hs hpl, fun B G H σ S Q R h => ?_⟩
  refine qa B G H σ S _ R ?_
  unfold mRng3 at h
  cases hm : ms S with
  | bad => rw [hm] at h; exact h
  | err c pl S' => rw [hm] at h; exact h
  | ok ds S' =>
    rw [hm, Rs.bind_ok] at h
    intro vs G1 H1 e1 R1 d1
    split at h
    · split at h
      · rename_i hz
        obtain ⟨rfl, hz1, hz2⟩ := hz
        cases d1 with
        | cons h1 h2 =>
          cases h1
          cases h2 with
          | cons h3 h4 =>
            cases h3
            cases h4 with
            | cons h5 h6 =>
              cases h5
              cases h6
              exact ⟨_, _, _, _, rfl, RgC.neg hz1.1 hz1.2 hz2.1 hz2.2, h _ G1 H1 e1 R1 yld_rngC⟩
      · exact h.elim
    · exact h.elim
end

/-! ### a base of the moment -/
def locM (σ : L2.St) (S : SS) : List (Nat × Addr) := (List.range S.length).filterMap fun i => match (S[i]? : Option SV), (σ[i]? : Option (Option V)) with
  | some (SV.ow _), some (some (V.ref l)) => some (i, l)
  | _, _ => none
theorem mem_locM {σ : L2.St} {S : SS} {i : Nat} {l : Addr} : (i, l) ∈ locM σ S ↔ (∃ ds, S[i]? = some (.ow ds)) ∧ σ[i]? = some (some (.ref l)) := by
  unfold locM
  rw [List.mem_filterMap]
  constructor
  · rintro ⟨j, _, h⟩
    split at h
    · rename_i h1 h2
      cases h
      exact ⟨⟨_, h1⟩, h2⟩
    · cases h
  · rintro ⟨⟨ds, h1⟩, h2⟩
    refine ⟨i, List.mem_range.mpr (List.getElem?_eq_some_iff.mp h1).1, ?_⟩
    rw [h1, h2]
def loc (G H : Hp) (σ : L2.St) (S : SS) : Bs := ⟨G, H, locM σ S⟩
def wS (vs : List Nat) (S : SS) : SS := vs.foldr (fun i S => S.set i .no) S
def unS (vs : List Nat) (S0 S : SS) : SS := vs.foldr (fun i S => S.set i (S0.getD i .no)) S
def okOwn (vs : List Nat) (S : SS) : Bool := vs.all fun i => match S[i]? with
  | some (.ow _) => false
  | some _ => true
  | none => false
@[simp] theorem wS_length (S : SS) : ∀ vs : List Nat, (wS vs S).length = S.length
  | [] => rfl
  | v :: vs => by
    show ((wS vs S).set v .no).length = _
    rw [List.length_set, wS_length S vs]
@[simp] theorem unS_length (S0 S : SS) : ∀ vs : List Nat, (unS vs S0 S).length = S.length
  | [] => rfl
  | v :: vs => by
    show ((unS vs S0 S).set v _).length = _
    rw [List.length_set, unS_length S0 S vs]
theorem wS_get (S : SS) (j : Nat) : ∀ vs : List Nat, (wS vs S)[j]? = if j ∈ vs then (if j < S.length then some .no else none) else S[j]?
  | [] => by simp [wS]
  | v :: vs => by
    show ((wS vs S).set v .no)[j]? = _
    by_cases e : j = v
    · subst e
      rw [if_pos List.mem_cons_self]
      by_cases h : j < S.length
      · rw [List.getElem?_set_self (by rw [wS_length]; exact h), if_pos h]
      · rw [List.getElem?_eq_none (by rw [List.length_set, wS_length]; omega), if_neg h]
    · rw [List.getElem?_set_ne (Ne.symm e), wS_get S j vs]
      by_cases h : j ∈ vs
      · rw [if_pos h, if_pos (List.mem_cons_of_mem _ h)]
      · rw [if_neg h, if_neg (by simp [e, h])]
theorem unS_get (S0 S : SS) (j : Nat) : ∀ vs : List Nat, (unS vs S0 S)[j]? = if j ∈ vs then (if j < S.length then some (S0.getD j .no) else none) else S[j]?
  | [] => by simp [unS]
  | v :: vs => by
    show ((unS vs S0 S).set v _)[j]? = _
    by_cases e : j = v
    · subst e
      rw [if_pos List.mem_cons_self]
      by_cases h : j < S.length
      · rw [List.getElem?_set_self (by rw [unS_length]; exact h), if_pos h]
      · rw [List.getElem?_eq_none (by rw [List.length_set, unS_length]; omega), if_neg h]
    · rw [List.getElem?_set_ne (Ne.symm e), unS_get S0 S j vs]
      by_cases h : j ∈ vs
      · rw [if_pos h, if_pos (List.mem_cons_of_mem _ h)]
      · rw [if_neg h, if_neg (by simp [e, h])]
theorem okOwn_at {vs : List Nat} {S : SS} (h : okOwn vs S = true) {i : Nat} (hi : i ∈ vs) : i < S.length ∧ ∀ ds, S[i]? ≠ some (.ow ds) := by
  have q := (List.all_eq_true.mp h) i hi
  cases e : S[i]? with
  | none => rw [e] at q; cases q
  | some s =>
    refine ⟨(List.getElem?_eq_some_iff.mp e).1, fun ds z => ?_⟩
    cases z
    rw [e] at q
    cases q
section
variable {K : PySem.W.Frag} {B : Bs} {G H G2 H2 : Hp} {σ σ2 : L2.St} {S S3 : SS} {vs : List Nat}
/-- into a comprehension's turn -/
theorem Rel.inn (R : Rel K B G H σ S) (vs : List Nat) : Rel K (loc G H (wipe σ vs) (wS vs S)) G H (wipe σ vs) (wS vs S) := by
  refine ⟨R.gh, Ex.refl _, fun a h => .inl h, fun a o h _ => h, by rw [wipe_length, wS_length]; exact R.ln, fun i s h => ?_, fun i j xs ys hij hi hj => ?_, fun m hm => ?_, fun m hm => ?_⟩
  · rw [wS_get] at h
    by_cases e : i ∈ vs
    · rw [if_pos e] at h
      split at h <;> cases h
      trivial
    · rw [if_neg e] at h
      have q := R.sl i s h
      have e2 : (wipe σ vs)[i]? = σ[i]? := by rw [wipe_get, if_neg e]
      cases s with
      | no => trivial
      | fz d =>
        obtain ⟨v, h1, h2⟩ := q
        exact ⟨v, by rw [e2]; exact h1, h2⟩
      | ow ds =>
        obtain ⟨l, ws, h1, h2, h3, h4, _⟩ := q
        exact ⟨l, ws, by rw [e2]; exact h1, h2, h3, h4, .inr (mem_locM.mpr ⟨⟨ds, by rw [wS_get, if_neg e]; exact h⟩, by rw [e2]; exact h1⟩)⟩
  · have hi' : i ∉ vs := fun e => by rw [wS_get, if_pos e] at hi; split at hi <;> cases hi
    have hj' : j ∉ vs := fun e => by rw [wS_get, if_pos e] at hj; split at hj <;> cases hj
    rw [wS_get, if_neg hi'] at hi
    rw [wS_get, if_neg hj'] at hj
    rw [wipe_get, wipe_get, if_neg hi', if_neg hj']
    exact R.ds i j xs ys hij hi hj
  · obtain ⟨i, l⟩ := m
    exact (mem_locM.mp hm).2
  · obtain ⟨i, l⟩ := m
    obtain ⟨⟨ds, h1⟩, h2⟩ := mem_locM.mp hm
    have hi' : i ∉ vs := fun e => by rw [wS_get, if_pos e] at h1; split at h1 <;> cases h1
    rw [wS_get, if_neg hi'] at h1
    rw [wipe_get, if_neg hi'] at h2
    obtain ⟨l', ws, q1, q2, _⟩ := R.sl i _ h1
    rw [h2] at q1
    cases q1
    exact ⟨_, q2⟩
/-- what a turn left alone -/
theorem loc_keeps (R : Rel K B G H σ S) (R2 : Rel K (loc G H (wipe σ vs) (wS vs S)) G2 H2 σ2 S3) {p : Addr} {o : HO} (hp : H p = some o) (gp : G p = none) (ns : ∀ (i : Nat) (xs : List D), S[i]? = some (SV.ow xs) → σ[i]? ≠ some (some (V.ref p))) :
    H2 p = some o ∧ G2 p = none := by
  have nm : ∀ m ∈ locM (wipe σ vs) (wS vs S), m.2 ≠ p := fun m hm e => by
    obtain ⟨i, l⟩ := m
    obtain ⟨⟨ds, h1⟩, h2⟩ := mem_locM.mp hm
    have hi' : i ∉ vs := fun e => by rw [wS_get, if_pos e] at h1; split at h1 <;> cases h1
    rw [wS_get, if_neg hi'] at h1
    rw [wipe_get, if_neg hi'] at h2
    exact ns i ds h1 (by rw [h2]; exact congrArg some (congrArg some (congrArg V.ref e)))
  refine ⟨R2.kp p o hp nm, ?_⟩
  cases q : G2 p with
  | none => rfl
  | some u =>
    rcases R2.fr p (by rw [q]; simp) with z | z | ⟨m, hm, z⟩
    · exact absurd gp z
    · have z' : H p = none := z
      rw [hp] at z'
      cases z'
    · exact absurd z (nm m hm)
/-- back out of it -/
theorem Rel.out (R : Rel K B G H σ S) (ok : okOwn vs S = true) (R2 : Rel K (loc G H (wipe σ vs) (wS vs S)) G2 H2 σ2 S3) (hw : wipe σ2 vs = wipe σ vs) : Rel K B G2 H2 σ (unS vs S S3) := by
  have inM : ∀ {i : Nat} {l : Addr}, (i, l) ∈ locM (wipe σ vs) (wS vs S) → i ∉ vs ∧ (∃ ds, S[i]? = some (.ow ds)) ∧ σ[i]? = some (some (.ref l)) := fun {i l} hm => by
    obtain ⟨⟨ds, h1⟩, h2⟩ := mem_locM.mp hm
    have hi' : i ∉ vs := fun e => by rw [wS_get, if_pos e] at h1; split at h1 <;> cases h1
    rw [wS_get, if_neg hi'] at h1
    rw [wipe_get, if_neg hi'] at h2
    exact ⟨hi', ⟨ds, h1⟩, h2⟩
  have slot : ∀ {i : Nat} {l : Addr} {ds : List D}, S[i]? = some (.ow ds) → σ[i]? = some (some (.ref l)) → (B.H l = none ∨ (i, l) ∈ B.M) := fun {i l ds} h1 h2 => by
    obtain ⟨l', ws, q1, _, _, _, q5⟩ := R.sl i _ h1
    rw [h2] at q1
    cases q1
    exact q5
  have eqσ : ∀ {i : Nat}, i ∉ vs → σ2[i]? = σ[i]? := fun {i} h => by
    have e : (wipe σ2 vs)[i]? = (wipe σ vs)[i]? := by rw [hw]
    rw [wipe_get, wipe_get, if_neg h, if_neg h] at e
    exact e
  have len3 : S3.length = S.length := by
    have h1 := R2.ln
    have h2 := congrArg List.length hw
    rw [wipe_length, wipe_length] at h2
    rw [← h1, h2, R.ln]
  have at3 : ∀ {i : Nat} {s : SV}, (unS vs S S3)[i]? = some s → (i ∈ vs ∧ S[i]? = some s ∧ ∀ ds, s ≠ .ow ds) ∨ (i ∉ vs ∧ S3[i]? = some s) := fun {i s} h => by
    rw [unS_get] at h
    by_cases e : i ∈ vs
    · rw [if_pos e] at h
      split at h
      · cases h
        obtain ⟨hl, hn⟩ := okOwn_at ok e
        have q : S[i]? = some (S.getD i .no) := by rw [List.getD_eq_getElem?_getD, List.getElem?_eq_getElem hl]; rfl
        exact .inl ⟨e, q, fun ds z => hn ds (by rw [q, z])⟩
      · cases h
    · rw [if_neg e] at h
      exact .inr ⟨e, h⟩
  refine ⟨R2.gh, R.gg.trans R2.gg, fun a h => ?_, fun a o h hm => ?_, by rw [unS_length, len3]; exact R.ln, fun i s h => ?_, fun i j xs ys hij hi hj => ?_, R.mm, fun m hm => ?_⟩
  · rcases R2.fr a h with z | z | ⟨⟨i, l⟩, hm, z⟩
    · exact R.fr a z
    · exact .inr (.inl (R.noB z))
    · obtain ⟨_, ⟨ds, h1⟩, h2⟩ := inM hm
      have z' : l = a := z
      subst z'
      rcases slot h1 h2 with q | q
      · exact .inr (.inl q)
      · exact .inr (.inr ⟨_, q, rfl⟩)
  · refine R2.kp a o (R.kp a o h hm) fun m' hm' e => ?_
    obtain ⟨i, l⟩ := m'
    obtain ⟨_, ⟨ds, h1⟩, h2⟩ := inM hm'
    have e' : l = a := e
    subst e'
    rcases slot h1 h2 with q | q
    · rw [q] at h
      cases h
    · exact hm _ q rfl
  · rcases at3 h with ⟨e, h1, h2⟩ | ⟨e, h1⟩
    · have q := R.sl i s h1
      cases s with
      | no => trivial
      | fz d =>
        obtain ⟨v, q1, q2⟩ := q
        exact ⟨v, q1, q2.mono R2.gg⟩
      | ow ds => exact absurd rfl (h2 ds)
    · have q := R2.sl i s h1
      cases s with
      | no => trivial
      | fz d =>
        obtain ⟨v, q1, q2⟩ := q
        exact ⟨v, by rw [← eqσ e]; exact q1, q2⟩
      | ow ds =>
        obtain ⟨l, ws, q1, q2, q3, q4, q5⟩ := q
        refine ⟨l, ws, by rw [← eqσ e]; exact q1, q2, q3, q4, ?_⟩
        rcases q5 with z | z
        · exact .inl (R.noB z)
        · obtain ⟨_, ⟨es, h1'⟩, h2'⟩ := inM z
          exact slot h1' h2'
  · rcases at3 hi with ⟨_, _, h2⟩ | ⟨ei, hi'⟩
    · exact absurd rfl (h2 xs)
    · rcases at3 hj with ⟨_, _, h2⟩ | ⟨ej, hj'⟩
      · exact absurd rfl (h2 ys)
      · have q := R2.ds i j xs ys hij hi' hj'
        rw [eqσ ei, eqσ ej] at q
        exact q
  · obtain ⟨o, ho⟩ := R.mh m hm
    by_cases z : ∃ m' ∈ locM (wipe σ vs) (wS vs S), m'.2 = m.2
    · obtain ⟨m', hm', e⟩ := z
      rw [← e]
      exact R2.mh m' hm'
    · exact ⟨o, R2.kp m.2 o ho fun m' hm' e => z ⟨m', hm', e⟩⟩
/-- a loose object changes -/
theorem Rel.looseUpd {p : Addr} {o : HO} (R : Rel K B G H σ S) (gp : G p = none) (bp : B.H p = none) (bm : ∀ m ∈ B.M, m.2 ≠ p) (ns : ∀ (i : Nat) (xs : List D), S[i]? = some (SV.ow xs) → σ[i]? ≠ some (some (V.ref p))) : Rel K B G (upd H p o) σ S := by
  refine ⟨R.gh.mut gp, R.gg, R.fr, fun a u h hm => ?_, R.ln, fun i s h => ?_, R.ds, R.mm, fun m hm => ?_⟩
  · have : a ≠ p := fun e => by
      rw [e, bp] at h
      cases h
    rw [upd_ne this]
    exact R.kp a u h hm
  · have q := R.sl i s h
    cases s with
    | no => trivial
    | fz d => exact q
    | ow ds =>
      obtain ⟨l, ws, q1, q2, q3, q4, q5⟩ := q
      have : l ≠ p := fun z => ns i ds h (by rw [q1, z])
      exact ⟨l, ws, q1, by rw [upd_ne this]; exact q2, q3, q4, q5⟩
  · rw [upd_ne (bm m hm)]
    exact R.mh m hm
theorem Rel.noBM {p : Addr} (R : Rel K B G H σ S) (hp : H p = none) : ∀ m ∈ B.M, m.2 ≠ p := fun m hm e => by
  obtain ⟨o, ho⟩ := R.mh m hm
  rw [e, hp] at ho
  cases ho
end

/-! ### list comprehensions -/
def noE {α : Type} (r : Rs α) : Rs α := match r with
  | .err _ _ _ => .bad
  | r => r
def compLoop (vs : List Nat) (g : GF) (mt : M Bool) (me : M D) : List D → List D → SS → Rs (List D)
  | [], acc, S => .ok acc S
  | d :: ds, acc, S => match g d (wS vs S) with
    | none => .bad
    | some S1 => (noE (mt S1)).bind fun b S2 => if b = true then (noE (me S2)).bind fun y S3 => if acc.length < cap then compLoop vs g mt me ds (acc ++ [y]) (unS vs S S3) else .bad
      else compLoop vs g mt me ds acc (unS vs S S2)
theorem compLoop_cons (vs : List Nat) (g : GF) (mt : M Bool) (me : M D) (d : D) (ds acc : List D) (S : SS) : compLoop vs g mt me (d :: ds) acc S = match g d (wS vs S) with
    | none => .bad
    | some S1 => (noE (mt S1)).bind fun b S2 => if b = true then (noE (me S2)).bind fun y S3 => if acc.length < cap then compLoop vs g mt me ds (acc ++ [y]) (unS vs S S3) else .bad
      else compLoop vs g mt me ds acc (unS vs S S2) := rfl
def mComp (mi : M (List D)) (vs : List Nat) (g : GF) (mt : M Bool) (me : M D) : M (List D) := fun S => (mi S).bind fun ds S1 => if okOwn vs S1 = true then compLoop vs g mt me ds [] S1 else .bad
def mYes : M Bool := fun S => .ok true S
def GTs (X : Cx) (W : WX) (ifs : List Expr) (m : M Bool) : Prop :=
  ∃ t : TT, PTs X ifs t ∧ ∀ B G H σ S Q, Rel X.K B G H σ S → PoT X.K X.mg B W σ G (m S) Q → t σ H Q
abbrev W0 : WX := fun _ _ _ _ => False
theorem okOwn_un {vs : List Nat} {S S3 : SS} (h : okOwn vs S = true) (hl : S3.length = S.length) : okOwn vs (unS vs S S3) = true := by
  refine List.all_eq_true.mpr fun i hi => ?_
  obtain ⟨h1, h2⟩ := okOwn_at h hi
  rw [unS_get, if_pos hi, if_pos (by rw [hl]; exact h1)]
  have q : S[i]? = some (S.getD i .no) := by rw [List.getD_eq_getElem?_getD, List.getElem?_eq_getElem h1]; rfl
  cases e : S.getD i .no with
  | no => rfl
  | fz d => rfl
  | ow ds =>
    rw [e] at q
    exact absurd q (h2 ds)
section
variable {X : Cx} {W : WX} {elt tg iter : Expr} {ifs : List Expr} {scope : Scope} {own : List (Str × Nat)} {pos : Pos} {mi : M (List D)} {is : List Nat} {g : GF} {mt : M Bool} {me : M D}
theorem gts_nil : GTs X W [] mYes := ⟨_, pts_nil, fun B G H σ S Q R h => h G H (Ex.refl _) R⟩
theorem gts_one {c : Expr} (h : GT X W c mt) : GTs X W [c] mt := by
  obtain ⟨t, p, q⟩ := h
  exact ⟨t, pts_one p, q⟩
end
/-! ### the one reading of a mirror -/
def canE (K : PySem.W.Frag) (mg : Str → Option Value) (W : WX) (m : M D) : TE := fun σ H Q => ∃ B G S, Rel K B G H σ S ∧ PoE K mg B W σ G (m S) Q
def canT (K : PySem.W.Frag) (mg : Str → Option Value) (W : WX) (m : M Bool) : TT := fun σ H Q => ∃ B G S, Rel K B G H σ S ∧ PoT K mg B W σ G (m S) Q
def canG (K : PySem.W.Frag) (is : List Nat) (g : GF) : TG := fun v σ H Q => ∃ (B : Bs) (G : Hp) (S S' : SS) (d : D), (∀ m ∈ B.M, m.1 ∉ is) ∧ Rel K B G H σ S ∧ DP K G v d ∧ g d S = some S' ∧
  ∀ σ', Rel K B G H σ' S' → (∀ vs : List Nat, (∀ i ∈ is, i ∈ vs) → wipe σ' vs = wipe σ vs) → Q σ' H
section
variable {X : Cx} {W : WX} {e tg : Expr} {es : List Expr} {is : List Nat} {g : GF}
theorem GE.can {m : M D} (h : GE X W e m) : PE X e (canE X.K X.mg W m) := by
  obtain ⟨t, p, q⟩ := h
  exact ⟨fun pins s σ H Q I ⟨B, G, S, R, k⟩ => p.run pins s σ H Q I (q B G H σ S Q R k)⟩
theorem GTs.can {m : M Bool} (h : GTs X W es m) : PTs X es (canT X.K X.mg W m) := by
  obtain ⟨t, p, q⟩ := h
  exact ⟨fun pins s σ H Q I ⟨B, G, S, R, k⟩ => p.run pins s σ H Q I (q B G H σ S Q R k)⟩
theorem GG.can (h : GG X tg is g) : PG X tg (canG X.K is g) := by
  obtain ⟨t, p, q⟩ := h
  exact ⟨fun pins s σ H v u Q I r ⟨B, G, S, S', d, nm, R, dv, eg, k⟩ => p.run pins s σ H v u Q I r (q B G H σ S S' v d Q nm R dv eg k)⟩
end
section
variable {X : Cx} {W : WX} {elt tg iter : Expr} {ifs : List Expr} {scope : Scope} {own : List (Str × Nat)} {pos : Pos} {mi : M (List D)} {is : List Nat} {g : GF} {mt : M Bool} {me : M D}
theorem comp_out {wi : TI} (qi : ∀ (B : Bs) (G H : Hp) (σ : L2.St) (S : SS) (Q : It → Hp → Prop), Rel X.K B G H σ S → PoI X.K X.mg B W σ G (mi S) Q → wi σ H Q) {vs : List Nat} (his : ∀ i ∈ is, i ∈ vs) :
    ∀ (B : Bs) (G H : Hp) (σ : L2.St) (S : SS) (Q : VK), Rel X.K B G H σ S → PoL X.K X.mg B W σ G (mComp mi vs g mt me S) Q →
      tLc wi (canG X.K is g) (canT X.K X.mg W0 mt) (canE X.K X.mg W0 me) vs σ H Q := fun B G H σ S Q R h => by
  refine qi B G H σ S _ R ?_
  unfold mComp at h
  cases hm : mi S with
  | bad => rw [hm] at h; exact h
  | err c pl S' => rw [hm] at h; exact h
  | ok ds S1 =>
    rw [hm, Rs.bind_ok] at h
    intro J G1 H1 e1 R1 y D hD
    by_cases hown : okOwn vs S1 = true
    · rw [if_pos hown] at h
      have bD := R1.noB hD
      have bmD := R1.noBM hD
      refine ⟨fun i m H' => ∃ G' S' acc ws, m = ds.length - i ∧ i ≤ ds.length ∧ Ex G1 G' ∧ Rel X.K B G' H' σ S' ∧ okOwn vs S' = true ∧ H' D = some (.lst ws) ∧ DPs X.K G' ws acc ∧ G' D = none ∧
        compLoop vs g mt me (ds.drop i) acc S' = compLoop vs g mt me ds [] S1 ∧ (∀ (j : Nat) (xs : List Q4.D), S'[j]? = some (SV.ow xs) → σ[j]? ≠ some (some (V.ref D))), ⟨ds.length, G1, S1, [], [], by simp, Nat.zero_le _, Ex.refl _, R1.loose hD, hown, upd_same, .nil, fresh_back R1.gh hD, by rw [List.drop_zero], R1.noS hD⟩, ?_⟩
      rintro i m H' ⟨G', S', acc, ws, rfl, hi, eg, R', ok', hws, dws, gD, hres, nsD⟩
      by_cases hlt : i < ds.length
      · have hd : ds[i]? = some ds[i] := List.getElem?_eq_getElem hlt
        rw [List.drop_eq_getElem_cons hlt] at hres
        obtain ⟨_, yq⟩ := y i G' H' eg R'.gh
        obtain ⟨ygo, yit⟩ := yq _ hd
        refine .inr ⟨ygo, fun H'' => ∃ G' S' acc ws, Ex G1 G' ∧ Rel X.K B G' H'' σ S' ∧ okOwn vs S' = true ∧ H'' D = some (.lst ws) ∧ DPs X.K G' ws acc ∧ G' D = none ∧
          compLoop vs g mt me (ds.drop (i + 1)) acc S' = compLoop vs g mt me ds [] S1 ∧ (∀ (j : Nat) (xs : List Q4.D), S'[j]? = some (SV.ow xs) → σ[j]? ≠ some (some (V.ref D))), fun H'' n => ?_, fun x H2 hy => ?_⟩
        · obtain ⟨G', S', acc, ws, k1, k2, k3, k4, k5, k6, k7, k8⟩ := n
          exact ⟨ds.length - (i + 1), by omega, G', S', acc, ws, rfl, hlt, k1, k2, k3, k4, k5, k6, k7, k8⟩
        · obtain ⟨G2, al, dx⟩ := yit x H2 hy
          have eg2 := al.ex R'.gh
          have R2 := R'.alc al
          have hws2 : H2 D = some (.lst ws) ∧ G2 D = none := by
            rcases al with ⟨rfl, rfl⟩ | ⟨p, o, hp, rfl, rfl⟩
            · exact ⟨hws, gD⟩
            · have : D ≠ p := ne_of_none hws hp
              rw [upd_ne this, upd_ne this]
              exact ⟨hws, gD⟩
          rw [compLoop_cons] at hres
          cases hg : g ds[i] (wS vs S') with
          | none =>
            rw [hg] at hres
            rw [← hres] at h
            exact h.elim
          | some S2 =>
            rw [hg] at hres
            refine ⟨loc G2 H2 (wipe σ vs) (wS vs S'), G2, wS vs S', S2, ds[i], fun m hm z => ?_, R2.inn vs, dx, hg, fun σ2 R3 hw => ?_⟩
            · obtain ⟨j, l⟩ := m
              obtain ⟨⟨xs, h1⟩, h2⟩ := mem_locM.mp hm
              rw [wS_get, if_pos (his _ z)] at h1
              split at h1 <;> cases h1
            have hw' : wipe σ2 vs = wipe σ vs := (hw vs his).trans (wipe_wipe σ vs)
            refine ⟨hw', loc G2 H2 (wipe σ vs) (wS vs S'), G2, S2, R3, ?_⟩
            -- what the next turn finds
            have next : ∀ {G4 H4 : Hp} {S4 : SS}, Ex G2 G4 → Rel X.K (loc G2 H2 (wipe σ vs) (wS vs S')) G4 H4 σ2 S4 → Rel X.K B G4 H4 σ (unS vs S' S4) ∧ okOwn vs (unS vs S' S4) = true ∧ H4 D = some (.lst ws) ∧ G4 D = none ∧
                (∀ (j : Nat) (xs : List Q4.D), (unS vs S' S4)[j]? = some (SV.ow xs) → σ[j]? ≠ some (some (V.ref D))) := fun {G4 H4 S4} e4 R4 => by
              obtain ⟨k1, k2⟩ := loc_keeps R2 R4 hws2.1 hws2.2 nsD
              have Ro := R2.out ok' R4 hw'
              have ln4 : S4.length = S'.length := by
                have q1 := R4.ln
                have q2 := congrArg List.length hw'
                rw [wipe_length, wipe_length] at q2
                rw [← q1, q2, R2.ln]
              refine ⟨Ro, okOwn_un ok' ln4, k1, k2, fun j xs hj hσ => ?_⟩
              obtain ⟨l, us, q1, q2, q3, q4, q5⟩ := Ro.sl j _ hj
              rw [hσ] at q1
              cases q1
              rw [unS_get] at hj
              by_cases ej : j ∈ vs
              · rw [if_pos ej] at hj
                split at hj
                · obtain ⟨z1, z2⟩ := okOwn_at ok' ej
                  have q : S'[j]? = some (S'.getD j .no) := by rw [List.getD_eq_getElem?_getD, List.getElem?_eq_getElem z1]; rfl
                  exact z2 xs (by rw [q]; exact hj)
                · cases hj
              · rw [if_neg ej] at hj
                obtain ⟨l2, us2, p1, p2, p3, p4, p5⟩ := R4.sl j _ hj
                have eσ : σ2[j]? = σ[j]? := by
                  have e : (wipe σ2 vs)[j]? = (wipe σ vs)[j]? := by rw [hw']
                  rw [wipe_get, wipe_get, if_neg ej, if_neg ej] at e
                  exact e
                rw [eσ, hσ] at p1
                cases p1
                rcases p5 with z | z
                · have z' : H2 D = none := z
                  rw [hws2.1] at z'
                  cases z'
                · obtain ⟨⟨zs, z1⟩, z2⟩ := mem_locM.mp z
                  rw [wS_get, if_neg ej] at z1
                  exact nsD j zs z1 hσ
            simp only at hres
            cases ht : mt S2 with
            | bad => rw [ht] at hres; rw [← hres] at h; exact h.elim
            | err c pl S' => rw [ht] at hres; rw [← hres] at h; exact h.elim
            | ok b S3 =>
              rw [ht] at hres
              intro G3 H3 e3 R4
              cases b with
              | false =>
                refine iteF ?_
                have hres' : compLoop vs g mt me (ds.drop (i + 1)) acc (unS vs S' S3) = compLoop vs g mt me ds [] S1 := hres
                obtain ⟨n1, n2, n3, n4, n5⟩ := next e3 R4
                exact ⟨G3, _, acc, ws, (eg.trans eg2).trans e3, n1, n2, n3, dws.mono (eg2.trans e3), n4, hres', n5⟩
              | true =>
                refine iteT ⟨loc G2 H2 (wipe σ vs) (wS vs S'), G3, S3, R4, ?_⟩
                have hres' : ((noE (me S3)).bind fun y S3 => if acc.length < cap then compLoop vs g mt me (ds.drop (i + 1)) (acc ++ [y]) (unS vs S' S3) else .bad) = compLoop vs g mt me ds [] S1 := hres
                cases he : me S3 with
                | bad => rw [he] at hres'; rw [← hres'] at h; exact h.elim
                | err c pl S' => rw [he] at hres'; rw [← hres'] at h; exact h.elim
                | ok yd S4 =>
                  rw [he] at hres'
                  intro v G4 H4 e4 R5 dv
                  have hres2 : (if acc.length < cap then compLoop vs g mt me (ds.drop (i + 1)) (acc ++ [yd]) (unS vs S' S4) else .bad) = compLoop vs g mt me ds [] S1 := hres'
                  by_cases hz : acc.length < cap
                  · rw [if_pos hz] at hres2
                    obtain ⟨n1, n2, n3, n4, n5⟩ := next (e3.trans e4) R5
                    refine ⟨ws, n3, by rw [dws.length]; exact cap_lt hz, G4, _, acc ++ [yd], ws ++ [v], ((eg.trans eg2).trans e3).trans e4, n1.looseUpd n4 bD bmD n5, n2, upd_same, (dws.mono (eg2.trans (e3.trans e4))).append (.one dv), n4, hres2, n5⟩
                  · rw [if_neg hz] at hres2
                    rw [← hres2] at h
                    exact h.elim
      · have ei : i = ds.length := by omega
        subst ei
        rw [List.drop_length] at hres
        have hres' : Rs.ok acc S' = compLoop vs g mt me ds [] S1 := hres
        rw [← hres'] at h
        exact .inl ⟨(y _ G' H' eg R'.gh).1 (Nat.le_refl _), h D ws G' H' (e1.trans eg) R' hws dws gD bD nsD⟩
    · rw [if_neg hown] at h
      exact h.elim
theorem gl_comp (nd : X.N.Nodup) (hi : GI X W tg iter mi) (ok : BlkOk X.N X.env.scope scope own)
    (hg : ∀ (s : Shared) (H : Hp) (C : Addr) (cl : List (Str × Addr)) (fp : List Addr), GG (X.blk s H scope (compEnvC scope cl C X.env) fp) tg is g)
    (ht : ∀ (s : Shared) (H : Hp) (C : Addr) (cl : List (Str × Addr)) (fp : List Addr), GTs (X.blk s H scope (compEnvC scope cl C X.env) fp) W0 ifs mt)
    (he : ∀ (s : Shared) (H : Hp) (C : Addr) (cl : List (Str × Addr)) (fp : List Addr), GE (X.blk s H scope (compEnvC scope cl C X.env) fp) W0 elt me)
    (his : ∀ i ∈ is, i ∈ own.map (·.2) := by decide) (hc : X.calm = true := by rfl) (hs : ∀ x, foldedSetIterable iter X.env x = pure x := by intro _; rfl) :
    GL X W (.ListComp elt [⟨tg, iter, ifs, 0⟩] scope pos) (mComp mi (own.map (·.2)) g mt me) := by
  obtain ⟨wi, pi, qi⟩ := hi
  exact ⟨_, pe_lc hc nd pi ok (fun s H C cl fp => (hg s H C cl fp).can) (fun s H C cl fp => (ht s H C cl fp).can) (fun s H C cl fp => (he s H C cl fp).can) hs, comp_out qi his⟩
end
end Q4


set_option Elab.async false
set_option linter.all false
set_option maxRecDepth 100000
set_option maxHeartbeats 4000000
/-! Part D: statements. -/
namespace Q4
open PySem PySem.Spec PyProof.Rows L2 Evl

inductive Fl where
  | nx | rt (d : D) | rl (ds : List D) | bk | ct
def PoS (K : PySem.W.Frag) (mg : Str → Option Value) (B : Bs) (W : WX) (G : Hp) (r : Rs Fl) (Z : Ends) : Prop := match r with
  | .ok .nx S' => ∀ σ' G' H', Ex G G' → Rel K B G' H' σ' S' → Z.nx σ' H'
  | .ok .bk S' => ∀ σ' G' H', Ex G G' → Rel K B G' H' σ' S' → Z.bk σ' H'
  | .ok .ct S' => ∀ σ' G' H', Ex G G' → Rel K B G' H' σ' S' → Z.ct σ' H'
  | .ok (.rt d) S' => ∀ v σ' G' H', Ex G G' → Rel K B G' H' σ' S' → DP K G' v d → Z.rt v H'
  | .ok (.rl ds) S' => ∀ p vs σ' G' H', Ex G G' → Rel K B G' H' σ' S' → H' p = some (.lst vs) → DPs K G' vs ds → G' p = none → B.H p = none → (∀ (i : Nat) (xs : List D), S'[i]? = some (SV.ow xs) → σ'[i]? ≠ some (some (V.ref p))) → Z.rt (.ref p) H'
  | .err c pl S' => ∀ cls dd σ' G' H', Ex G G' → Rel K B G' H' σ' S' → ErrAt mg K G' H' c pl cls dd → W cls (some dd) σ' H'
  | .bad => False
theorem PoS.mono {K : PySem.W.Frag} {mg : Str → Option Value} {B : Bs} {W : WX} {G G' : Hp} {r : Rs Fl} {Z : Ends} (e : Ex G G') (h : PoS K mg B W G r Z) : PoS K mg B W G' r Z := by
  cases r with
  | ok f S =>
    cases f with
    | nx => exact fun σ G2 H2 e2 => h σ G2 H2 (e.trans e2)
    | bk => exact fun σ G2 H2 e2 => h σ G2 H2 (e.trans e2)
    | ct => exact fun σ G2 H2 e2 => h σ G2 H2 (e.trans e2)
    | rt d => exact fun v σ G2 H2 e2 => h v σ G2 H2 (e.trans e2)
    | rl ds => exact fun p vs σ G2 H2 e2 => h p vs σ G2 H2 (e.trans e2)
  | err c pl S => exact fun cls dd σ G2 H2 e2 => h cls dd σ G2 H2 (e.trans e2)
  | bad => exact h
def GS (X : Cx) (W : WX) (mp : List Nat) (st : Stmt) (m : M Fl) : Prop :=
  ∃ t : TS, PS X st t ∧ ∀ B G H σ S Z, NoM mp B → Rel X.K B G H σ S → PoS X.K X.mg B W G (m S) Z → t Z σ H
def GSs (X : Cx) (W : WX) (mp : List Nat) (sts : List Stmt) (m : M Fl) : Prop :=
  ∃ t : TS, PSs X sts t ∧ ∀ B G H σ S Z, NoM mp B → Rel X.K B G H σ S → PoS X.K X.mg B W G (m S) Z → t Z σ H

/-! ### blocks, small statements -/
def mNx : M Fl := fun S => .ok .nx S
def mSeq (m ms : M Fl) : M Fl := fun S => (m S).bind fun f S1 => match f with
  | .nx => ms S1
  | f => .ok f S1
def mBk : M Fl := fun S => .ok .bk S
def mCt : M Fl := fun S => .ok .ct S
def mRet (m : M D) : M Fl := fun S => (m S).bind fun d S1 => .ok (.rt d) S1
def mRetL (m : M (List D)) : M Fl := fun S => (m S).bind fun d S1 => .ok (.rl d) S1
def mRetN : M Fl := fun S => .ok (.rt .non) S
/-- return of an owned name -/
def mRetO (i : Nat) : M Fl := fun S => match S[i]? with
  | some (.ow ds) => .ok (.rl ds) (S.set i .no)
  | _ => .bad
def mDrop (m : M D) : M Fl := fun S => (m S).bind fun _ S1 => .ok .nx S1
def mIfS (c : M Bool) (a b : M Fl) : M Fl := fun S => (c S).bind fun k S1 => if k = true then a S1 else b S1
section
variable {X : Cx} {W : WX} {mp : List Nat} {st : Stmt} {sts : List Stmt} {m ms : M Fl} {pos : Pos} {e : Expr} {me : M D}
theorem gs_nil : GSs X W mp [] mNx := ⟨_, pss_nil, fun B G H σ S Z nm R h => h σ G H (Ex.refl _) R⟩
theorem gs_cons (h1 : GS X W mp st m) (h2 : GSs X W mp sts ms) : GSs X W mp (st :: sts) (mSeq m ms) := by
  obtain ⟨t1, p1, q1⟩ := h1
  obtain ⟨t2, p2, q2⟩ := h2
  refine ⟨_, pss_cons p1 p2, fun B G H σ S Z nm R h => ?_⟩
  refine q1 B G H σ S _ nm R ?_
  unfold mSeq at h
  cases hm : m S with
  | bad => rw [hm] at h; exact h
  | err c pl S' => rw [hm] at h; exact h
  | ok f S' =>
    rw [hm, Rs.bind_ok] at h
    cases f with
    | nx => exact fun σ' G' H' e1 R1 => q2 B G' H' σ' S' Z nm R1 (PoS.mono e1 h)
    | _ => exact h
theorem gs_pass : GS X W mp (.Pass pos) mNx := ⟨_, ps_pass, fun B G H σ S Z nm R h => h σ G H (Ex.refl _) R⟩
theorem gs_break : GS X W mp (.Break pos) mBk := ⟨_, ps_break, fun B G H σ S Z nm R h => h σ G H (Ex.refl _) R⟩
theorem gs_continue : GS X W mp (.Continue pos) mCt := ⟨_, ps_continue, fun B G H σ S Z nm R h => h σ G H (Ex.refl _) R⟩
theorem gs_ret (he : GE X W e me) : GS X W mp (.Return (some e) pos) (mRet me) := by
  obtain ⟨t, p, q⟩ := he
  refine ⟨_, ps_ret p, fun B G H σ S Z nm R h => ?_⟩
  refine q B G H σ S _ R ?_
  unfold mRet at h
  cases hm : me S with
  | bad => rw [hm] at h; exact h
  | err c pl S' => rw [hm] at h; exact fun cls dd G' H' => h cls dd σ G' H'
  | ok d S' =>
    rw [hm, Rs.bind_ok] at h
    exact fun v G' H' => h v σ G' H'
theorem gs_retL {ml : M (List D)} (he : GL X W e ml) : GS X W mp (.Return (some e) pos) (mRetL ml) := by
  obtain ⟨t, p, q⟩ := he
  refine ⟨_, ps_ret p, fun B G H σ S Z nm R h => ?_⟩
  refine q B G H σ S _ R ?_
  unfold mRetL at h
  cases hm : ml S with
  | bad => rw [hm] at h; exact h
  | err c pl S' => rw [hm] at h; exact fun cls dd G' H' => h cls dd σ G' H'
  | ok d S' =>
    rw [hm, Rs.bind_ok] at h
    exact fun p vs G' H' => h p vs σ G' H'
theorem gs_retN : GS X W mp (.Return none pos) mRetN := ⟨_, ps_retN, fun B G H σ S Z nm R h => h _ σ G H (Ex.refl _) R .non⟩
theorem gs_retO (i : Nat) {x : Str} {pos' : Pos} (hm : i ∉ mp := by decide) (hN : X.N[i]? = some x := by rfl) (hv : Vis X.env.scope x := by first | exact Or.inl rfl | exact Or.inr (Or.inl rfl) | exact Or.inr (Or.inr rfl)) (hd : (x == ("__debug__" : Str)) = false := by decide)
    (hcd : (x == ("__classdict__" : Str)) = false := by decide) : GS X W mp (.Return (some (.Name x pos')) pos) (mRetO i) := by
  refine ⟨_, ps_ret (pe_var hN hv hd hcd), fun B G H σ S Z nm R h => ?_⟩
  unfold mRetO at h
  cases hs : S[i]? with
  | none => rw [hs] at h; exact h.elim
  | some s =>
    rw [hs] at h
    cases s with
    | no => exact h.elim
    | fz d => exact h.elim
    | ow ds =>
      obtain ⟨l, vs, h1, h2, h3, h4, h5⟩ := R.sl i _ hs
      have hi : i < S.length := (List.getElem?_eq_some_iff.mp hs).1
      have bl : B.H l = none := by
        rcases h5 with z | z
        · exact z
        · exact absurd (nm _ z) hm
      have R' : Rel X.K B G H σ (S.set i .no) := by
        refine ⟨R.gh, R.gg, R.fr, R.kp, by rw [List.length_set]; exact R.ln, fun j s hj => ?_, fun j k xs ys hjk hj hk => ?_, R.mm, R.mh⟩
        · by_cases ej : j = i
          · subst ej
            rw [List.getElem?_set_self hi] at hj
            cases hj
            trivial
          · rw [List.getElem?_set_ne (Ne.symm ej)] at hj
            exact R.sl j s hj
        · have nj : j ≠ i := fun z => by subst z; rw [List.getElem?_set_self hi] at hj; cases hj
          have nk : k ≠ i := fun z => by subst z; rw [List.getElem?_set_self hi] at hk; cases hk
          rw [List.getElem?_set_ne (Ne.symm nj)] at hj
          rw [List.getElem?_set_ne (Ne.symm nk)] at hk
          exact R.ds j k xs ys hjk hj hk
      refine ⟨_, h1, h l vs σ G H (Ex.refl _) R' h2 h3 h4 bl fun j xs hj hσ => ?_⟩
      have nj : j ≠ i := fun z => by subst z; rw [List.getElem?_set_self hi] at hj; cases hj
      rw [List.getElem?_set_ne (Ne.symm nj)] at hj
      exact R.ds j i xs ds nj hj hs (by rw [hσ, h1])
theorem gs_expr (he : GE X W e me) (hs : swapsWith e none pos.line X.env = pure false := by rfl) : GS X W mp (.Expr e pos) (mDrop me) := by
  obtain ⟨t, p, q⟩ := he
  refine ⟨_, ps_expr p hs, fun B G H σ S Z nm R h => ?_⟩
  refine q B G H σ S _ R ?_
  unfold mDrop at h
  cases hm : me S with
  | bad => rw [hm] at h; exact h
  | err c pl S' => rw [hm] at h; exact fun cls dd G' H' => h cls dd σ G' H'
  | ok d S' =>
    rw [hm, Rs.bind_ok] at h
    exact fun v G' H' e1 R1 _ => h σ G' H' e1 R1
theorem gs_if {c : Expr} {a b : List Stmt} {mc : M Bool} {ma mb : M Fl} (hc : GT X W c mc) (ha : GSs X W mp a ma) (hb : GSs X W mp b mb) : GS X W mp (.If c a b pos) (mIfS mc ma mb) := by
  obtain ⟨tc, pc, qc⟩ := hc
  obtain ⟨ta, pa, qa⟩ := ha
  obtain ⟨tb, pb, qb⟩ := hb
  refine ⟨_, ps_if pc pa pb, fun B G H σ S Z nm R h => ?_⟩
  refine qc B G H σ S _ R ?_
  unfold mIfS at h
  cases hm : mc S with
  | bad => rw [hm] at h; exact h
  | err c pl S' => rw [hm] at h; exact fun cls dd G' H' => h cls dd σ G' H'
  | ok d S' =>
    rw [hm, Rs.bind_ok] at h
    intro G1 H1 e1 R1
    cases d with
    | true => exact iteT (qa B G1 H1 σ S' Z nm R1 (PoS.mono e1 h))
    | false => exact iteF (qb B G1 H1 σ S' Z nm R1 (PoS.mono e1 h))
end

/-! ### stores -/
def mAsg (m : M D) (g : GF) : M Fl := fun S => (m S).bind fun d S1 => match g d S1 with
  | some S2 => .ok .nx S2
  | none => .bad
def mAsgL (i : Nat) (m : M (List D)) : M Fl := fun S => (m S).bind fun ds S1 => if i < S1.length then .ok .nx (S1.set i (.ow ds)) else .bad
def mPar (i j : Nat) (ms : M (List D)) : M Fl := fun S => (ms S).bind fun ds S1 => match ds with
  | [d, e] => if i < S1.length ∧ j < S1.length then .ok .nx ((S1.set i (.fz d)).set j (.fz e)) else .bad
  | _ => .bad
/-- x op= e -/
def mAug (i : Nat) (f : D → D → Option D) (m : M D) : M Fl := fun S => match S[i]? with
  | some (.fz a) => (m S).bind fun b S1 => match f a b with
    | some d => if i < S1.length then .ok .nx (S1.set i (.fz d)) else .bad
    | none => .bad
  | _ => .bad
section
variable {X : Cx} {W : WX} {mp : List Nat} {pos pos' : Pos} {e tg : Expr} {me : M D} {ml : M (List D)} {i j : Nat} {x y : Str} {is : List Nat} {g : GF}
theorem asg_out {te : TE} {tg : TG} (qe : ∀ B G H σ S Q, Rel X.K B G H σ S → PoE X.K X.mg B W σ G (me S) Q → te σ H Q)
    (qg : ∀ (B : Bs) (G H : Hp) (σ : L2.St) (S S' : SS) (v : V) (d : D) (Q : L2.St → Hp → Prop), (∀ m ∈ B.M, m.1 ∉ is) → Rel X.K B G H σ S → DP X.K G v d → g d S = some S' → (∀ σ', Rel X.K B G H σ' S' → (∀ vs : List Nat, (∀ i ∈ is, i ∈ vs) → wipe σ' vs = wipe σ vs) → Q σ' H) → tg v σ H Q)
    (hi : ∀ i ∈ is, i ∉ mp) : ∀ B G H σ S Z, NoM mp B → Rel X.K B G H σ S → PoS X.K X.mg B W G (mAsg me g S) Z → tAsg te tg Z σ H := fun B G H σ S Z nm R h => by
  refine qe B G H σ S _ R ?_
  unfold mAsg at h
  cases hm : me S with
  | bad => rw [hm] at h; exact h
  | err c pl S' => rw [hm] at h; exact fun cls dd G' H' => h cls dd σ G' H'
  | ok d S' =>
    rw [hm, Rs.bind_ok] at h
    intro v G1 H1 e1 R1 dv
    cases hg : g d S' with
    | none => rw [hg] at h; exact h.elim
    | some S2 =>
      rw [hg] at h
      exact qg B G1 H1 σ S' S2 v d _ (fun m hm z => hi _ z (nm m hm)) R1 dv hg fun σ' R' _ => h σ' G1 H1 e1 R'
/-- any target -/
theorem gs_asgT (he : GE X W e me) (hg : GG X tg is g) (hi : ∀ i ∈ is, i ∉ mp := by decide) (hs : swapsWithSole [tg] e pos.line X.env = pure false := by rfl) (hw : swappedStores [tg] e X.env = pure none := by rfl)
    (h1 : (assignEach [tg] X.env).map (·.2) = [assign tg X.env] := by rfl) : GS X W mp (.Assign [tg] e pos) (mAsg me g) := by
  obtain ⟨te, pe, qe⟩ := he
  obtain ⟨tt, pt, qt⟩ := hg
  exact ⟨_, ps_asg pe pt hs hw h1, asg_out qe qt hi⟩
/-- a name -/
theorem gs_asg (i : Nat) (nd : X.N.Nodup) (he : GE X W e me) (hm : i ∉ mp := by decide) (hN : X.N[i]? = some x := by rfl) (hx : Loc X.env.scope x := by first | exact .inl rfl | exact .inr rfl) (hs : swapsWith e (some (.Name x pos')) pos.line X.env = pure false := by rfl)
    (hf : X.fn x = true ∨ X.env.scope.names.lookup x = some .local := by first | exact .inl rfl | exact .inr rfl | assumption) : GS X W mp (.Assign [.Name x pos'] e pos) (mAsg me (gN i)) := by
  obtain ⟨te, pe, qe⟩ := he
  obtain ⟨tt, pt, qt⟩ := gg_name (X := X) (pos := pos') i nd hN hx hf
  refine ⟨_, ps_set nd hN hx pe hs hf, asg_out (is := [i]) qe (fun B G H σ S S' v d Q nm R dv e k => ?_) (fun j hj => by
    have : j = i := by simpa using hj
    rw [this]
    exact hm)⟩
  unfold gN at e
  split at e
  · rename_i hl
    cases e
    exact k _ (R.putF hl (fun m hm' z => nm m hm' (by rw [z]; simp)) dv) fun vs h => wipe_set (h i (by simp))
  · cases e
theorem asgL_out {te : TE} (qe : ∀ B G H σ S Q, Rel X.K B G H σ S → PoL X.K X.mg B W σ G (ml S) Q → te σ H Q) (hi : i ∉ mp) :
    ∀ B G H σ S Z, NoM mp B → Rel X.K B G H σ S → PoS X.K X.mg B W G (mAsgL i ml S) Z → tAsg te (gName i) Z σ H := fun B G H σ S Z nm R h => by
  refine qe B G H σ S _ R ?_
  unfold mAsgL at h
  cases hm : ml S with
  | bad => rw [hm] at h; exact h
  | err c pl S' => rw [hm] at h; exact fun cls dd G' H' => h cls dd σ G' H'
  | ok ds S' =>
    rw [hm, Rs.bind_ok] at h
    intro p vs G1 H1 e1 R1 hp dv gp bp ns
    by_cases hl : i < S'.length
    · rw [if_pos hl] at h
      exact h _ G1 H1 e1 (R1.putO hl (fun m hm z => hi (by rw [← z]; exact nm m hm)) hp dv gp bp ns)
    · rw [if_neg hl] at h
      exact h.elim
theorem gs_asgL (i : Nat) (nd : X.N.Nodup) (he : GL X W e ml) (hm : i ∉ mp := by decide) (hN : X.N[i]? = some x := by rfl) (hx : Loc X.env.scope x := by first | exact .inl rfl | exact .inr rfl) (hs : swapsWith e (some (.Name x pos')) pos.line X.env = pure false := by rfl)
    (hf : X.fn x = true ∨ X.env.scope.names.lookup x = some .local := by first | exact .inl rfl | exact .inr rfl | assumption) : GS X W mp (.Assign [.Name x pos'] e pos) (mAsgL i ml) := by
  obtain ⟨te, pe, qe⟩ := he
  exact ⟨_, ps_set nd hN hx pe hs hf, asgL_out qe hm⟩
/-- name = [..], the name a plain local -/
theorem gs_asgC {py spos : Pos} {elt tgc iter : Expr} {ifs : List Expr} {scope : Scope} {own : List (Str × Nat)} {mi : M (List D)} {mt : M Bool} (i : Nat) (nd : X.N.Nodup) (hi : GI X W tgc iter mi) (ok : BlkOk X.N X.env.scope scope own)
    (hg : ∀ (s : Shared) (H : Hp) (C : Addr) (cl : List (Str × Addr)) (fp : List Addr), GG (X.blk s H scope (compEnvC scope cl C X.env) fp) tgc is g)
    (ht : ∀ (s : Shared) (H : Hp) (C : Addr) (cl : List (Str × Addr)) (fp : List Addr), GTs (X.blk s H scope (compEnvC scope cl C X.env) fp) W0 ifs mt)
    (he : ∀ (s : Shared) (H : Hp) (C : Addr) (cl : List (Str × Addr)) (fp : List Addr), GE (X.blk s H scope (compEnvC scope cl C X.env) fp) W0 elt me)
    (hm : i ∉ mp := by decide) (his : ∀ i ∈ is, i ∈ own.map (·.2) := by decide) (hy : X.N[i]? = some y := by rfl) (hyl : X.env.scope.names.lookup y = some .local := by rfl)
    (hsw : swapsWith (.ListComp elt [⟨tgc, iter, ifs, 0⟩] scope pos) (some (.Name y py)) spos.line X.env = pure true := by exact sw_true rfl rfl rfl (by decide +kernel))
    (hc : X.calm = true := by rfl) (hs : ∀ x, foldedSetIterable iter X.env x = pure x := by intro _; rfl) :
    GS X W mp (.Assign [.Name y py] (.ListComp elt [⟨tgc, iter, ifs, 0⟩] scope pos) spos) (mAsgL i (mComp mi (own.map (·.2)) g mt me)) := by
  obtain ⟨wi, pi, qi⟩ := hi
  exact ⟨_, ps_setLc hc nd hy hyl hsw pi ok (fun s H C cl fp => (hg s H C cl fp).can) (fun s H C cl fp => (ht s H C cl fp).can) (fun s H C cl fp => (he s H C cl fp).can) hs, asgL_out (comp_out qi his) hm⟩
theorem gs_par {a b : Expr} {ms : M (List D)} {px py pt : Pos} {kt k2 pt2} (i j : Nat) (nd : X.N.Nodup) (ha : GA X W [a, b] ms) (hmi : i ∉ mp := by decide) (hmj : j ∉ mp := by decide) (hij : i ≠ j := by decide) (hi : X.N[i]? = some x := by rfl) (hj : X.N[j]? = some y := by rfl)
    (hx : X.env.scope.names.lookup x = some .local := by rfl) (hy : X.env.scope.names.lookup y = some .local := by rfl) (hc : X.calm = true := by rfl)
    (hw : swappedStores [.Tuple [.Name x px, .Name y py] kt pt] (.Tuple [a, b] k2 pt2) X.env = pure (some [x, y]) := by rfl)
    (hs : swapsWithSole [.Tuple [.Name x px, .Name y py] kt pt] (.Tuple [a, b] k2 pt2) pos.line X.env = pure false := by rfl) :
    GS X W mp (.Assign [.Tuple [.Name x px, .Name y py] kt pt] (.Tuple [a, b] k2 pt2) pos) (mPar i j ms) := by
  obtain ⟨ta, pa, qa⟩ := ha
  refine ⟨_, ps_par hc nd hi hj hij hx hy pa hw hs, fun B G H σ S Z nm R h => ?_⟩
  refine qa B G H σ S _ R ?_
  unfold mPar at h
  cases hm : ms S with
  | bad => rw [hm] at h; exact h
  | err c pl S' => rw [hm] at h; exact fun cls dd G' H' => h cls dd σ G' H'
  | ok ds S' =>
    rw [hm, Rs.bind_ok] at h
    intro vs G1 H1 e1 R1 dv
    split at h
    · split at h
      · rename_i hl
        cases dv with
        | cons d1 d2 =>
          cases d2 with
          | cons d3 d4 =>
            cases d4
            refine ⟨_, _, rfl, h _ G1 H1 e1 ?_⟩
            exact (R1.putF hl.1 (fun m hm z => hmi (by rw [← z]; exact nm m hm)) d1).putF (by rw [List.length_set]; exact hl.2) (fun m hm z => hmj (by rw [← z]; exact nm m hm)) d3
      · exact h.elim
    · exact h.elim
theorem gs_aug {op : Operator} {r : R2} {f : D → D → Option D} (i : Nat) (nd : X.N.Nodup) (hr : OpR X (inplaceOp op) r) (ho : OpD X.K r f) (he : GE X W e me) (hm : i ∉ mp := by decide) (hN : X.N[i]? = some x := by rfl) (hx : Loc X.env.scope x := by first | exact .inl rfl | exact .inr rfl)
    (hf : X.fn x = true ∨ X.env.scope.names.lookup x = some .local := by first | exact .inl rfl | exact .inr rfl | assumption) : GS X W mp (.AugAssign (.Name x pos') op e pos) (mAug i f me) := by
  obtain ⟨te, pe, qe⟩ := he
  have hr' : PIp X op r := hr
  refine ⟨_, ps_aug nd hN hx pe hr' hf, fun B G H σ S Z nm R h => ?_⟩
  unfold mAug at h
  cases hs : S[i]? with
  | none => rw [hs] at h; exact h.elim
  | some s =>
    rw [hs] at h
    cases s with
    | no => exact h.elim
    | ow ds => exact h.elim
    | fz a =>
      obtain ⟨v, h1, h2⟩ := R.sl i _ hs
      refine ⟨v, h1, qe B G H σ S _ R ?_⟩
      have h' : PoS X.K X.mg B W G ((me S).bind fun b S1 => match f a b with
        | some d => if i < S1.length then .ok .nx (S1.set i (.fz d)) else .bad
        | none => .bad) Z := h
      cases hm' : me S with
      | bad => rw [hm'] at h'; exact h'
      | err c pl S' => rw [hm'] at h'; exact fun cls dd G' H' => h' cls dd σ G' H'
      | ok b S' =>
        rw [hm', Rs.bind_ok] at h'
        intro u G1 H1 e1 R1 du
        cases hf' : f a b with
        | none => rw [hf'] at h'; exact h'.elim
        | some d =>
          rw [hf'] at h'
          have h'' : PoS X.K X.mg B W G (if i < S'.length then .ok .nx (S'.set i (.fz d)) else .bad) Z := h'
          refine ho v u a b d G1 H1 _ hf' (h2.mono e1) du R1.gh fun w G2 H2 al dw => ?_
          by_cases hl : i < S'.length
          · rw [if_pos hl] at h''
            exact h'' _ G2 H2 (e1.trans (al.ex R1.gh)) ((R1.alc al).putF hl (fun m hm2 z => hm (by rw [← z]; exact nm m hm2)) dw)
          · rw [if_neg hl] at h''
            exact h''.elim
end

/-! ### owned lists, written -/
/-- x[i] = e -/
def mSetIx (k : Nat) (mi me : M D) : M Fl := fun S => (me S).bind fun d S1 => match S1[k]? with
  | some (.ow _) => (mi S1).bind fun i S2 => match S2[k]?, i with
    | some (.ow ds), .int z => match ixN ds.length z with
      | some j => .ok .nx (S2.set k (.ow (ds.set j d)))
      | none => .bad
    | _, _ => .bad
  | _ => .bad
/-- x[i] op= e -/
def mAugIx (k : Nat) (f : D → D → Option D) (mi me : M D) : M Fl := fun S => match S[k]? with
  | some (.ow _) => (mi S).bind fun i S1 => match S1[k]?, i with
    | some (.ow ds), .int z => match atI ds z with
      | some a => (me S1).bind fun b S2 => match f a b, S2[k]? with
        | some d, some (.ow es) => match ixN es.length z with
          | some j => .ok .nx (S2.set k (.ow (es.set j d)))
          | none => .bad
        | _, _ => .bad
      | none => .bad
    | _, _ => .bad
  | _ => .bad
/-- x.append(e) -/
def mApp (k : Nat) (me : M D) : M Fl := fun S => match S[k]? with
  | some (.ow _) => (me S).bind fun d S1 => match S1[k]? with
    | some (.ow ds) => if ds.length < cap then .ok .nx (S1.set k (.ow (ds ++ [d]))) else .bad
    | _ => .bad
  | _ => .bad
/-- x.pop() as an expression -/
def mPop (k : Nat) : M D := fun S => match S[k]? with
  | some (.ow ds) => match ds[ds.length - 1]? with
    | some d => .ok d (S.set k (.ow ds.dropLast))
    | none => .bad
  | _ => .bad
/-- x.extend(e) -/
def mExt (k : Nat) (me : M D) : M Fl := fun S => match S[k]? with
  | some (.ow _) => (me S).bind fun d S1 => match S1[k]?, d with
    | some (.ow ds), .lst es => if ds.length + es.length ≤ cap then .ok .nx (S1.set k (.ow (ds ++ es))) else .bad
    | _, _ => .bad
  | _ => .bad
def rGetL : V → V → Hp → VK → Prop := fun x y H Q => ∃ p xs i v, x = .ref p ∧ y = .int i ∧ H p = some (.lst xs) ∧ atI xs i = some v ∧ Q v H
theorem pget_list {X : Cx} : PGet X rGetL := by
  intro pins s σ H x y v u Q I rx ry h
  obtain ⟨p, xs, i, z, rfl, rfl, hq, he, q⟩ := h
  cases rx
  obtain ⟨t, rfl⟩ := ry
  obtain ⟨its, r, pl, hz⟩ := I.list (SqL.of hq)
  obtain ⟨j, h1, h2, h3, h4, h5⟩ := L2.atI_get he
  obtain ⟨w, ew, rw'⟩ := r.get h2
  have hl := r.length
  have hn := line63
  have fin : EP X pins σ Q w s := ⟨z, H, I, rw', q⟩
  by_cases h0 : 0 ≤ i
  · have hj : i.toNat = j := by
      rw [PySem.StrLaws.seqIndex_nonneg h0 h5] at h1
      exact Option.some.inj h1
    exact wpAny_getItem_list pl.isList h0 (by omega) (by rw [hj]; simpa using ew) fin
  · have hj : (i + (its.toArray.size : Int)).toNat = j := by
      rw [seqIndex_neg (by omega) h4] at h1
      rw [List.size_toArray, ← hl]
      exact Option.some.inj h1
    exact wpAny_getItem_list_neg pl.isList (by omega) (by rw [List.size_toArray]; omega) (by omega) (by rw [hj]; simpa using ew) fin
section
variable {X : Cx} {W : WX} {mp : List Nat} {pos pos' apos cpos : Pos} {e i : Expr} {me mi : M D} {x : Str}
/-- where an owned slot stands -/
theorem Rel.own {K : PySem.W.Frag} {B : Bs} {G H : Hp} {σ : L2.St} {S : SS} {k : Nat} {ds : List D} (R : Rel K B G H σ S) (h : S[k]? = some (.ow ds)) {v : V} (hv : σ[k]? = some (some v)) : ∃ l vs, v = .ref l ∧ H l = some (.lst vs) ∧ DPs K G vs ds ∧ G l = none := by
  obtain ⟨l, vs, h1, h2, h3, h4, _⟩ := R.sl k _ h
  rw [hv] at h1
  cases h1
  exact ⟨l, vs, rfl, h2, h3, h4⟩
theorem gs_setIx (k : Nat) (hi : GE X W i mi) (he : GE X W e me) (hN : X.N[k]? = some x := by rfl) (hv : Vis X.env.scope x := by first | exact Or.inl rfl | exact Or.inr (Or.inl rfl) | exact Or.inr (Or.inr rfl)) (hd : (x == ("__debug__" : Str)) = false := by decide)
    (hcd : (x == ("__classdict__" : Str)) = false := by decide)
    (ha : ∀ v, assign (.Subscript (.Name x pos') i apos) X.env v = (do
      let ov ← holding [v] (eval (.Name x pos') X.env)
      let iv ← holding [v, ov] (eval i X.env)
      standAt apos
      holding [v, ov, iv] (setItem ov iv v)
      release [v, ov, iv] []) := by intro _; rfl)
    (hs : swapsWithSole [.Subscript (.Name x pos') i apos] e pos.line X.env = pure false := by rfl) (hw : swappedStores [.Subscript (.Name x pos') i apos] e X.env = pure none := by rfl)
    (h1 : (assignEach [.Subscript (.Name x pos') i apos] X.env).map (·.2) = [assign (.Subscript (.Name x pos') i apos) X.env] := by rfl) : GS X W mp (.Assign [.Subscript (.Name x pos') i apos] e pos) (mSetIx k mi me) := by
  obtain ⟨te, pe, qe⟩ := he
  obtain ⟨ti, pi, qi⟩ := hi
  refine ⟨_, ps_asg pe (pg_sub (pe_var hN hv hd hcd) pi set_list ha) hs hw h1, fun B G H σ S Z nm R h => ?_⟩
  refine qe B G H σ S _ R ?_
  unfold mSetIx at h
  cases hm : me S with
  | bad => rw [hm] at h; exact h
  | err c pl S' => rw [hm] at h; exact fun cls dd G' H' => h cls dd σ G' H'
  | ok d S' =>
    rw [hm, Rs.bind_ok] at h
    intro u G1 H1 e1 R1 du
    split at h
    · rename_i es hk
      obtain ⟨l0, _, hσ, _⟩ := R1.sl k _ hk
      refine ⟨_, hσ, qi B G1 H1 σ S' _ R1 ?_⟩
      cases hm2 : mi S' with
      | bad => rw [hm2] at h; exact h
      | err c pl S2 => rw [hm2] at h; exact fun cls dd G' H' e2 => h cls dd σ G' H' (e1.trans e2)
      | ok z S2 =>
        rw [hm2, Rs.bind_ok] at h
        intro w G2 H2 e2 R2 dw
        split at h
        · rename_i ds zi hk2
          split at h
          · rename_i j hj
            cases dw
            obtain ⟨l, vs, q1, q2, q3, q4⟩ := R2.own hk2 hσ
            cases q1
            refine ⟨l0, vs, zi, j, rfl, rfl, q2, by rw [q3.length]; exact hj, ?_⟩
            exact h σ G2 _ (e1.trans e2) (R2.wr hk2 hσ q2 (q3.set (du.mono e2) j))
          · exact h.elim
        · exact h.elim
    · exact h.elim
theorem gs_augIx {op : Operator} {r : R2} {f : D → D → Option D} (k : Nat) (hr : OpR X (inplaceOp op) r) (ho : OpD X.K r f) (hi : GE X W i mi) (he : GE X W e me) (hN : X.N[k]? = some x := by rfl) (hv : Vis X.env.scope x := by first | exact Or.inl rfl | exact Or.inr (Or.inl rfl) | exact Or.inr (Or.inr rfl))
    (hd : (x == ("__debug__" : Str)) = false := by decide) (hcd : (x == ("__classdict__" : Str)) = false := by decide)
    (ha : ∀ ov iv new, augStore i ov iv new = (do holding [new, ov, iv] (setItem ov iv new); release [new, ov, iv] []; pure .next) := by intros; rfl) : GS X W mp (.AugAssign (.Subscript (.Name x pos') i apos) op e pos) (mAugIx k f mi me) := by
  obtain ⟨te, pe, qe⟩ := he
  obtain ⟨ti, pi, qi⟩ := hi
  have hr' : PIp X op r := hr
  refine ⟨_, ps_augS (pe_var hN hv hd hcd) pi pget_list pe hr' set_list ha, fun B G H σ S Z nm R h => ?_⟩
  unfold mAugIx at h
  split at h
  · rename_i es hk
    obtain ⟨l0, _, hσ, _⟩ := R.sl k _ hk
    refine ⟨_, hσ, qi B G H σ S _ R ?_⟩
    cases hm : mi S with
    | bad => rw [hm] at h; exact h
    | err c pl S2 => rw [hm] at h; exact fun cls dd G' H' e2 => h cls dd σ G' H' e2
    | ok z S1 =>
      rw [hm, Rs.bind_ok] at h
      intro w G1 H1 e1 R1 dw
      split at h
      · rename_i ds zi hk1
        split at h
        · rename_i a hat
          cases dw
          obtain ⟨l, vs, q1, q2, q3, q4⟩ := R1.own hk1 hσ
          cases q1
          obtain ⟨va, ea, da⟩ := atI_get q3 hat
          refine ⟨l0, vs, zi, va, rfl, rfl, q2, ea, qe B G1 H1 σ S1 _ R1 ?_⟩
          cases hm2 : me S1 with
          | bad => rw [hm2] at h; exact h
          | err c pl S2 => rw [hm2] at h; exact fun cls dd G' H' e2 => h cls dd σ G' H' (e1.trans e2)
          | ok b S2 =>
            rw [hm2, Rs.bind_ok] at h
            intro u G2 H2 e2 R2 du
            split at h
            · rename_i d es2 hf hk2
              split at h
              · rename_i j hj
                refine ho va u a b d G2 H2 _ hf (da.mono e2) du R2.gh fun nv G3 H3 al dn => ?_
                have R3 := R2.alc al
                obtain ⟨l3, vs3, p1, p2, p3, p4⟩ := R3.own hk2 hσ
                cases p1
                refine ⟨l0, vs3, zi, j, rfl, rfl, p2, by rw [p3.length]; exact hj, ?_⟩
                exact h σ G3 _ ((e1.trans e2).trans (al.ex R2.gh)) (R3.wr hk2 hσ p2 (p3.set dn j))
              · exact h.elim
            · exact h.elim
        · exact h.elim
      · exact h.elim
  · exact h.elim
theorem gs_app (k : Nat) (he : GE X W e me) (hN : X.N[k]? = some x := by rfl) (hv : Vis X.env.scope x := by first | exact Or.inl rfl | exact Or.inr (Or.inl rfl) | exact Or.inr (Or.inr rfl)) (hd : (x == ("__debug__" : Str)) = false := by decide)
    (hcd : (x == ("__classdict__" : Str)) = false := by decide) (hbase : attributeBase (.Name x pos') "append" X.env (eval (.Name x pos') X.env) = eval (.Name x pos') X.env := by rfl)
    (hfew : ((backTo cpos (starEach [e] X.env)).all (fun x => !x.1) && (backToKw cpos (keywordEach [] X.env)).all (fun x => x.1.isSome)
      && decide ([e].length + ([] : List Keyword).length + (if ([] : List Keyword).isEmpty then 0 else 1) < 30)) = true := by rfl)
    (hline : (apos.endLine == cpos.line) = true := by rfl) (hse : starEach [e] X.env = (false, eval e X.env) :: starEach [] X.env := by rfl) (hplain : (backTo cpos (starEach [] X.env)).any (·.1) = false := by rfl)
    (hs : swapsWith (.Call (.Attribute (.Name x pos') "append" apos) [e] [] cpos) none pos.line X.env = pure false := by rfl) : GS X W mp (.Expr (.Call (.Attribute (.Name x pos') "append" apos) [e] [] cpos) pos) (mApp k me) := by
  obtain ⟨te, pe, qe⟩ := he
  refine ⟨_, ps_expr (pe_bm PySem.F.plainAttrs_list PySem.F.slot_list_append PySem.F.type_list_append mt_append (pe_var hN hv hd hcd) (pa_cons pe pa_nil hse) hbase hfew hline hse hplain) hs, fun B G H σ S Z nm R h => ?_⟩
  unfold mApp at h
  split at h
  · rename_i es hk
    obtain ⟨l0, vs0, hσ, hl0, _⟩ := R.sl k _ hk
    refine ⟨_, hσ, .inl ⟨rfl, _, SqL.of hl0⟩, qe B G H σ S _ R ?_⟩
    cases hm : me S with
    | bad => rw [hm] at h; exact h
    | err c pl S2 => rw [hm] at h; exact fun cls dd G' H' e2 => h cls dd σ G' H' e2
    | ok d S1 =>
      rw [hm, Rs.bind_ok] at h
      intro u G1 H1 e1 R1 du
      split at h
      · rename_i ds hk1
        split at h
        · rename_i hz
          obtain ⟨l, vs, q1, q2, q3, q4⟩ := R1.own hk1 hσ
          cases q1
          refine ⟨l0, vs, u, rfl, rfl, q2, by rw [q3.length]; exact cap_lt hz, ?_⟩
          exact h σ G1 _ e1 (R1.wr hk1 hσ q2 (q3.append (.one du)))
        · exact h.elim
      · exact h.elim
  · exact h.elim
theorem gs_ext (k : Nat) (he : GE X W e me) (hN : X.N[k]? = some x := by rfl) (hv : Vis X.env.scope x := by first | exact Or.inl rfl | exact Or.inr (Or.inl rfl) | exact Or.inr (Or.inr rfl)) (hd : (x == ("__debug__" : Str)) = false := by decide)
    (hcd : (x == ("__classdict__" : Str)) = false := by decide) (hbase : attributeBase (.Name x pos') "extend" X.env (eval (.Name x pos') X.env) = eval (.Name x pos') X.env := by rfl)
    (hfew : ((backTo cpos (starEach [e] X.env)).all (fun x => !x.1) && (backToKw cpos (keywordEach [] X.env)).all (fun x => x.1.isSome)
      && decide ([e].length + ([] : List Keyword).length + (if ([] : List Keyword).isEmpty then 0 else 1) < 30)) = true := by rfl)
    (hline : (apos.endLine == cpos.line) = true := by rfl) (hse : starEach [e] X.env = (false, eval e X.env) :: starEach [] X.env := by rfl) (hplain : (backTo cpos (starEach [] X.env)).any (·.1) = false := by rfl)
    (hs : swapsWith (.Call (.Attribute (.Name x pos') "extend" apos) [e] [] cpos) none pos.line X.env = pure false := by rfl) : GS X W mp (.Expr (.Call (.Attribute (.Name x pos') "extend" apos) [e] [] cpos) pos) (mExt k me) := by
  obtain ⟨te, pe, qe⟩ := he
  refine ⟨_, ps_expr (pe_bm PySem.F.plainAttrs_list PySem.F.slot_list_extend PySem.F.type_list_extend mt_extend (pe_var hN hv hd hcd) (pa_cons pe pa_nil hse) hbase hfew hline hse hplain) hs, fun B G H σ S Z nm R h => ?_⟩
  unfold mExt at h
  split at h
  · rename_i es hk
    obtain ⟨l0, vs0, hσ, hl0, _⟩ := R.sl k _ hk
    refine ⟨_, hσ, .inl ⟨rfl, _, SqL.of hl0⟩, qe B G H σ S _ R ?_⟩
    cases hm : me S with
    | bad => rw [hm] at h; exact h
    | err c pl S2 => rw [hm] at h; exact fun cls dd G' H' e2 => h cls dd σ G' H' e2
    | ok d S1 =>
      rw [hm, Rs.bind_ok] at h
      intro u G1 H1 e1 R1 du
      split at h
      · rename_i ds fs hk1
        split at h
        · rename_i hz
          obtain ⟨l, vs, q1, q2, q3, q4⟩ := R1.own hk1 hσ
          cases q1
          cases du with
          | lst h3 h4 =>
            refine ⟨l0, _, vs, _, rfl, rfl, q2, R1.gh _ _ h3, by rw [q3.length, h4.length]; exact cap_le hz, ?_⟩
            exact h σ G1 _ e1 (R1.wr hk1 hσ q2 (q3.append h4))
        · exact h.elim
      · exact h.elim
  · exact h.elim
theorem ge_pop (k : Nat) (hN : X.N[k]? = some x := by rfl) (hv : Vis X.env.scope x := by first | exact Or.inl rfl | exact Or.inr (Or.inl rfl) | exact Or.inr (Or.inr rfl)) (hd : (x == ("__debug__" : Str)) = false := by decide)
    (hcd : (x == ("__classdict__" : Str)) = false := by decide) (hbase : attributeBase (.Name x pos') "pop" X.env (eval (.Name x pos') X.env) = eval (.Name x pos') X.env := by rfl) (hline : (apos.endLine == cpos.line) = true := by rfl) :
    GE X W (.Call (.Attribute (.Name x pos') "pop" apos) [] [] cpos) (mPop k) := by
  refine ⟨_, pe_bm0 PySem.F.plainAttrs_list PySem.F.slot_list_pop PySem.F.type_list_pop mt_pop (pe_var hN hv hd hcd) hbase hline, fun B G H σ S Q R h => ?_⟩
  unfold mPop at h
  split at h
  · rename_i ds hk
    obtain ⟨l0, vs, hσ, hl0, q3, _⟩ := R.sl k _ hk
    split at h
    · rename_i d hd
      obtain ⟨v, ev, dv⟩ := q3.get hd
      refine ⟨_, hσ, .inl ⟨rfl, _, SqL.of hl0⟩, l0, vs, v, rfl, rfl, hl0, by rw [q3.length]; exact ev, ?_⟩
      exact h v G _ (Ex.refl _) (R.wr hk hσ hl0 q3.dropLast) dv
    · exact h.elim
  · exact h.elim
end

/-! ### loops -/
def forLoop (g : GF) (mb : M Fl) : List D → SS → Rs Fl
  | [], S => .ok .nx S
  | d :: ds, S => match g d S with
    | none => .bad
    | some S1 => (mb S1).bind fun f S2 => match f with
      | .nx => forLoop g mb ds S2
      | .ct => forLoop g mb ds S2
      | .bk => .ok .nx S2
      | f => .ok f S2
def mFor (mi : M (List D)) (g : GF) (mb : M Fl) : M Fl := fun S => (mi S).bind fun ds S1 => forLoop g mb ds S1
theorem forLoop_cons (g : GF) (mb : M Fl) (d : D) (ds : List D) (S : SS) : forLoop g mb (d :: ds) S = match g d S with
    | none => .bad
    | some S1 => (mb S1).bind fun f S2 => match f with
      | .nx => forLoop g mb ds S2
      | .ct => forLoop g mb ds S2
      | .bk => .ok .nx S2
      | f => .ok f S2 := rfl
/-- a while loop of at most so many turns -/
def whileN (c : M Bool) (mb : M Fl) : Nat → SS → Option (Rs Fl)
  | 0, _ => none
  | n + 1, S => match c S with
    | .bad => some .bad
    | .err a b S1 => some (.err a b S1)
    | .ok false S1 => some (.ok .nx S1)
    | .ok true S1 => match mb S1 with
      | .ok .nx S2 => whileN c mb n S2
      | .ok .ct S2 => whileN c mb n S2
      | .ok .bk S2 => some (.ok .nx S2)
      | r => some r
open Classical in
noncomputable def mWhile (c : M Bool) (mb : M Fl) : M Fl := fun S => if h : ∃ n r, whileN c mb n S = some r then (Classical.choose_spec h).choose else .bad
theorem whileN_mono (c : M Bool) (mb : M Fl) : ∀ (n m : Nat) (S : SS) (r : Rs Fl), whileN c mb n S = some r → n ≤ m → whileN c mb m S = some r
  | 0, _, _, _, h, _ => nomatch h
  | n + 1, 0, _, _, _, l => nomatch l
  | n + 1, m + 1, S, r, h, l => by
    unfold whileN at h ⊢
    cases hc : c S with
    | bad => rw [hc] at h; exact h
    | err a b S1 => rw [hc] at h; exact h
    | ok k S1 =>
      rw [hc] at h
      cases k with
      | false => exact h
      | true =>
        simp only at h ⊢
        cases hb : mb S1 with
        | bad => rw [hb] at h; exact h
        | err a b S2 => rw [hb] at h; exact h
        | ok f S2 =>
          rw [hb] at h
          cases f with
          | nx => exact whileN_mono c mb n m S2 r h (Nat.le_of_succ_le_succ l)
          | ct => exact whileN_mono c mb n m S2 r h (Nat.le_of_succ_le_succ l)
          | bk => exact h
          | rt d => exact h
          | rl d => exact h
theorem mWhile_of {c : M Bool} {mb : M Fl} {n : Nat} {S : SS} {r : Rs Fl} (h : whileN c mb n S = some r) : mWhile c mb S = r := by
  have ex : ∃ n r, whileN c mb n S = some r := ⟨n, r, h⟩
  unfold mWhile
  rw [dif_pos ex]
  have q := (Classical.choose_spec ex).choose_spec
  have a := whileN_mono c mb _ (max n (Classical.choose ex)) S _ h (Nat.le_max_left _ _)
  have b := whileN_mono c mb _ (max n (Classical.choose ex)) S _ q (Nat.le_max_right _ _)
  rw [a] at b
  exact (Option.some.inj b).symm
theorem mWhile_ex {c : M Bool} {mb : M Fl} {S : SS} (h : mWhile c mb S ≠ .bad) : ∃ n, whileN c mb n S = some (mWhile c mb S) := by
  by_cases ex : ∃ n r, whileN c mb n S = some r
  · obtain ⟨n, r, e⟩ := ex
    exact ⟨n, by rw [mWhile_of e]; exact e⟩
  · unfold mWhile at h
    rw [dif_neg ex] at h
    exact absurd rfl h
/-- one turn -/
theorem mWhile_eq (c : M Bool) (mb : M Fl) (S : SS) : mWhile c mb S = (c S).bind fun k S1 => if k = true then (mb S1).bind fun f S2 => match f with
      | .nx => mWhile c mb S2
      | .ct => mWhile c mb S2
      | .bk => .ok .nx S2
      | f => .ok f S2
    else .ok .nx S1 := by
  have go : ∀ n S r, whileN c mb n S = some r → r = (c S).bind fun k S1 => if k = true then (mb S1).bind fun f S2 => match f with
      | .nx => mWhile c mb S2
      | .ct => mWhile c mb S2
      | .bk => .ok .nx S2
      | f => .ok f S2
    else .ok .nx S1 := fun n S r h => by
    cases n with
    | zero => cases h
    | succ n =>
      unfold whileN at h
      cases hc : c S with
      | bad => rw [hc] at h; cases h; rfl
      | err a b S1 => rw [hc] at h; cases h; rfl
      | ok k S1 =>
        rw [hc] at h
        cases k with
        | false => cases h; rfl
        | true =>
          simp only at h
          show r = (mb S1).bind _
          cases hb : mb S1 with
          | bad => rw [hb] at h; cases h; rfl
          | err a b S2 => rw [hb] at h; cases h; rfl
          | ok f S2 =>
            rw [hb] at h
            cases f with
            | nx => exact (mWhile_of h).symm
            | ct => exact (mWhile_of h).symm
            | bk => cases h; rfl
            | rt d => cases h; rfl
            | rl d => cases h; rfl
  by_cases hb : mWhile c mb S = .bad
  · rw [hb]
    -- the other side is bad, too: else some number of turns would end
    cases hc : c S with
    | bad => rfl
    | err a b S1 =>
      exfalso
      have : whileN c mb 1 S = some (.err a b S1) := by unfold whileN; rw [hc]
      rw [mWhile_of this] at hb
      cases hb
    | ok k S1 =>
      cases k with
      | false =>
        exfalso
        have : whileN c mb 1 S = some (.ok .nx S1) := by unfold whileN; rw [hc]
        rw [mWhile_of this] at hb
        cases hb
      | true =>
        show .bad = (mb S1).bind _
        cases hb1 : mb S1 with
        | bad => rfl
        | err a b S2 =>
          exfalso
          have : whileN c mb 1 S = some (.err a b S2) := by unfold whileN; rw [hc]; simp only; rw [hb1]
          rw [mWhile_of this] at hb
          cases hb
        | ok f S2 =>
          cases f with
          | nx =>
            show .bad = mWhile c mb S2
            by_cases q : mWhile c mb S2 = .bad
            · exact q.symm
            · obtain ⟨n, e⟩ := mWhile_ex q
              have : whileN c mb (n + 1) S = some (mWhile c mb S2) := by unfold whileN; rw [hc]; simp only; rw [hb1]; exact e
              rw [mWhile_of this] at hb
              exact hb.symm
          | ct =>
            show .bad = mWhile c mb S2
            by_cases q : mWhile c mb S2 = .bad
            · exact q.symm
            · obtain ⟨n, e⟩ := mWhile_ex q
              have : whileN c mb (n + 1) S = some (mWhile c mb S2) := by unfold whileN; rw [hc]; simp only; rw [hb1]; exact e
              rw [mWhile_of this] at hb
              exact hb.symm
          | bk =>
            exfalso
            have : whileN c mb 1 S = some (.ok .nx S2) := by unfold whileN; rw [hc]; simp only; rw [hb1]
            rw [mWhile_of this] at hb
            cases hb
          | rt d =>
            exfalso
            have : whileN c mb 1 S = some (.ok (.rt d) S2) := by unfold whileN; rw [hc]; simp only; rw [hb1]
            rw [mWhile_of this] at hb
            cases hb
          | rl d =>
            exfalso
            have : whileN c mb 1 S = some (.ok (.rl d) S2) := by unfold whileN; rw [hc]; simp only; rw [hb1]
            rw [mWhile_of this] at hb
            cases hb
  · obtain ⟨n, e⟩ := mWhile_ex hb
    exact go n S _ e
section
variable {X : Cx} {W : WX} {mp : List Nat} {pos : Pos} {tg iter c : Expr} {body : List Stmt} {mi : M (List D)} {g : GF} {mb : M Fl} {mc : M Bool} {is : List Nat}
theorem gs_for (hp : PassesOwn (model X.prog X.w) X.A X.env X.xe) (hi : GI X W tg iter mi) (hg : GG X tg is g) (hb : GSs X W mp body mb) (his : ∀ i ∈ is, i ∉ mp := by decide) (hc : X.calm = true := by rfl)
    (hs : ∀ x, foldedSetIterable iter X.env x = pure x := by intro _; rfl) : GS X W mp (.For tg iter body [] pos) (mFor mi g mb) := by
  obtain ⟨wi, pi, qi⟩ := hi
  obtain ⟨tg', pg, qg⟩ := hg
  obtain ⟨tb, pb, qb⟩ := hb
  refine ⟨_, ps_for hp hc pi pg pb hs, fun B G H σ S Z nm R h => ?_⟩
  refine qi B G H σ S _ R ?_
  unfold mFor at h
  cases hm : mi S with
  | bad => rw [hm] at h; exact h
  | err c pl S' => rw [hm] at h; exact fun cls dd G' H' => h cls dd σ G' H'
  | ok ds S1 =>
    rw [hm, Rs.bind_ok] at h
    intro J G1 H1 e1 R1 y
    refine ⟨fun i m σ' H' => ∃ G' S', m = ds.length - i ∧ i ≤ ds.length ∧ Ex G1 G' ∧ Rel X.K B G' H' σ' S' ∧ forLoop g mb (ds.drop i) S' = forLoop g mb ds S1, ⟨ds.length, G1, S1, by simp, Nat.zero_le _, Ex.refl _, R1, by rw [List.drop_zero]⟩, ?_⟩
    rintro i m σ' H' ⟨G', S', rfl, hi, eg, R', hres⟩
    by_cases hlt : i < ds.length
    · have hd : ds[i]? = some ds[i] := List.getElem?_eq_getElem hlt
      rw [List.drop_eq_getElem_cons hlt, forLoop_cons] at hres
      obtain ⟨_, yq⟩ := y i G' H' eg R'.gh
      obtain ⟨ygo, yit⟩ := yq _ hd
      refine .inr ⟨ygo, fun σ2 H2 => ∃ G' S', Ex G1 G' ∧ Rel X.K B G' H2 σ2 S' ∧ forLoop g mb (ds.drop (i + 1)) S' = forLoop g mb ds S1, fun σ2 H2 n => ?_, fun x H2 hy => ?_⟩
      · obtain ⟨G2, S2, k1, k2, k3⟩ := n
        exact ⟨ds.length - (i + 1), by omega, G2, S2, rfl, hlt, k1, k2, k3⟩
      · obtain ⟨G2, al, dx⟩ := yit x H2 hy
        have R2 := R'.alc al
        have e2 := eg.trans (al.ex R'.gh)
        cases hg : g ds[i] S' with
        | none =>
          rw [hg] at hres
          rw [← hres] at h
          exact h.elim
        | some S2 =>
          rw [hg] at hres
          have hres' : ((mb S2).bind fun f S2 => match f with
            | .nx => forLoop g mb (ds.drop (i + 1)) S2
            | .ct => forLoop g mb (ds.drop (i + 1)) S2
            | .bk => .ok .nx S2
            | f => .ok f S2) = forLoop g mb ds S1 := hres
          refine qg B G2 H2 σ' S' S2 x ds[i] _ (fun m hm z => his _ z (nm m hm)) R2 dx hg fun σ2 R3 _ => ?_
          refine qb B G2 H2 σ2 S2 _ nm R3 ?_
          cases hb' : mb S2 with
          | bad => rw [hb'] at hres'; rw [← hres'] at h; exact h
          | err c pl S3 =>
            rw [hb'] at hres'
            rw [← hres'] at h
            exact PoS.mono (r := .err c pl S3) (Z := Z) (e1.trans e2) h
          | ok f S3 =>
            rw [hb', Rs.bind_ok] at hres'
            cases f with
            | nx => exact fun σ3 G3 H3 e3 R4 => ⟨G3, S3, e2.trans e3, R4, hres'⟩
            | ct => exact fun σ3 G3 H3 e3 R4 => ⟨G3, S3, e2.trans e3, R4, hres'⟩
            | bk =>
              have hq : Rs.ok .nx S3 = forLoop g mb ds S1 := hres'
              rw [← hq] at h
              exact fun σ3 G3 H3 e3 R4 => h σ3 G3 H3 ((e1.trans e2).trans e3) R4
            | rt d =>
              have hq : Rs.ok (.rt d) S3 = forLoop g mb ds S1 := hres'
              rw [← hq] at h
              exact PoS.mono (r := .ok (.rt d) S3) (Z := Z) (e1.trans e2) h
            | rl d =>
              have hq : Rs.ok (.rl d) S3 = forLoop g mb ds S1 := hres'
              rw [← hq] at h
              exact PoS.mono (r := .ok (.rl d) S3) (Z := Z) (e1.trans e2) h
    · have ei : i = ds.length := by omega
      subst ei
      rw [List.drop_length] at hres
      have hres' : Rs.ok .nx S' = forLoop g mb ds S1 := hres
      rw [← hres'] at h
      exact .inl ⟨(y _ G' H' eg R'.gh).1 (Nat.le_refl _), h σ' G' H' (e1.trans eg) R'⟩
theorem gs_while (hp : PassesOwn (model X.prog X.w) X.A X.env X.xe) (hc : GT X W c mc) (hb : GSs X W mp body mb) : GS X W mp (.While c body [] pos) (mWhile mc mb) := by
  obtain ⟨tc, pc, qc⟩ := hc
  obtain ⟨tb, pb, qb⟩ := hb
  refine ⟨_, ps_while hp pc pb, fun B G H σ S Z nm R h => ?_⟩
  have nb : mWhile mc mb S ≠ .bad := fun e => by rw [e] at h; exact h
  obtain ⟨n, hn⟩ := mWhile_ex nb
  refine ⟨fun m σ' H' => ∃ G' S', Ex G G' ∧ Rel X.K B G' H' σ' S' ∧ whileN mc mb m S' = some (mWhile mc mb S), ⟨n, G, S, Ex.refl _, R, hn⟩, ?_⟩
  rintro m σ' H' ⟨G', S', eg, R', hres⟩
  cases m with
  | zero => cases hres
  | succ m =>
    unfold whileN at hres
    refine qc B G' H' σ' S' _ R' ?_
    cases hcS : mc S' with
    | bad => rw [hcS] at hres; exact absurd (Option.some.inj hres).symm nb
    | err a b S1 =>
      rw [hcS] at hres
      rw [← Option.some.inj hres] at h
      exact fun cls dd G2 H2 e2 => h cls dd σ' G2 H2 (eg.trans e2)
    | ok k S1 =>
      rw [hcS] at hres
      intro G1 H1 e1 R1
      cases k with
      | false =>
        refine iteF ?_
        rw [← Option.some.inj hres] at h
        exact h σ' G1 H1 (eg.trans e1) R1
      | true =>
        refine iteT ⟨fun σ2 H2 => ∃ G2 S2, Ex G G2 ∧ Rel X.K B G2 H2 σ2 S2 ∧ whileN mc mb m S2 = some (mWhile mc mb S), fun σ2 H2 ⟨G2, S2, k1, k2, k3⟩ => ⟨m, Nat.lt_succ_self m, G2, S2, k1, k2, k3⟩, ?_⟩
        refine qb B G1 H1 σ' S1 _ nm R1 ?_
        simp only at hres
        cases hb' : mb S1 with
        | bad => rw [hb'] at hres; exact absurd (Option.some.inj hres).symm nb
        | err a b S2 =>
          rw [hb'] at hres
          rw [← Option.some.inj hres] at h
          exact PoS.mono (r := .err a b S2) (Z := Z) (eg.trans e1) h
        | ok f S2 =>
          rw [hb'] at hres
          cases f with
          | nx => exact fun σ3 G3 H3 e3 R4 => ⟨G3, S2, (eg.trans e1).trans e3, R4, hres⟩
          | ct => exact fun σ3 G3 H3 e3 R4 => ⟨G3, S2, (eg.trans e1).trans e3, R4, hres⟩
          | bk =>
            rw [← Option.some.inj hres] at h
            exact fun σ3 G3 H3 e3 R4 => h σ3 G3 H3 ((eg.trans e1).trans e3) R4
          | rt d =>
            rw [← Option.some.inj hres] at h
            exact PoS.mono (r := .ok (.rt d) S2) (Z := Z) (eg.trans e1) h
          | rl d =>
            rw [← Option.some.inj hres] at h
            exact PoS.mono (r := .ok (.rl d) S2) (Z := Z) (eg.trans e1) h
end
end Q4


set_option Elab.async false
set_option linter.all false
set_option maxRecDepth 100000
set_option maxHeartbeats 4000000
/-! Part E: defs, their promises, calls, the law's end. -/
namespace Q4
open PySem PySem.Spec PyProof.Rows L2 Evl

inductive Ret where
  | v (d : D) | l (ds : List D)
abbrev FM := SS → Rs Ret
def owAt (A : SS) (i : Nat) : Bool := match A[i]? with
  | some (.ow _) => true
  | _ => false
/-- a def by its body: n slots, the parameters at mp may be changed -/
def fnM (n : Nat) (mp : List Nat) (body : M Fl) : FM := fun A => match body (A ++ List.replicate (n - A.length) .no) with
  | .ok f S' => if mp.all (owAt (S'.take A.length)) then (match f with
    | .rt d => .ok (.v d) (S'.take A.length)
    | .rl ds => .ok (.l ds) (S'.take A.length)
    | .nx => .ok (.v .non) (S'.take A.length)
    | _ => .bad) else .bad
  | .err c pl S' => if mp.all (owAt (S'.take A.length)) then .err c pl (S'.take A.length) else .bad
  | .bad => .bad
structure ArgOk (K : PySem.W.Frag) (G H : Hp) (mp : List Nat) (vs : List V) (A : SS) : Prop where
  ln : vs.length = A.length
  at_ : ∀ (i : Nat) (s : SV), A[i]? = some s → match s with
    | .no => False
    | .fz d => i ∉ mp ∧ ∃ v, vs[i]? = some v ∧ DP K G v d
    | .ow ds => i ∈ mp ∧ ∃ l ws, vs[i]? = some (.ref l) ∧ H l = some (.lst ws) ∧ DPs K G ws ds ∧ G l = none
  ds : ∀ (i j : Nat) (xs ys : List D), i ≠ j → A[i]? = some (SV.ow xs) → A[j]? = some (SV.ow ys) → vs[i]? ≠ vs[j]?
  mp : ∀ i ∈ mp, ∃ ds, A[i]? = some (SV.ow ds)
structure PostH (K : PySem.W.Frag) (G H G' H' : Hp) (mp : List Nat) (vs : List V) (A' : SS) : Prop where
  gg : Ex G G'
  gh : Ex G' H'
  kp : ∀ a o, H a = some o → (∀ i ∈ mp, vs[i]? ≠ some (.ref a)) → H' a = some o
  fr : ∀ a, G' a ≠ none → G a ≠ none ∨ H a = none ∨ ∃ i ∈ mp, vs[i]? = some (.ref a)
  mu : ∀ i ∈ mp, ∃ ds ws l, A'[i]? = some (SV.ow ds) ∧ vs[i]? = some (.ref l) ∧ H' l = some (.lst ws) ∧ DPs K G' ws ds ∧ G' l = none
def PoF (K : PySem.W.Frag) (mg : Str → Option Value) (mp : List Nat) (G H : Hp) (vs : List V) (r : Rs Ret) (Q : VK) (E : XK) : Prop := match r with
  | .ok (.v d) A' => ∀ v G' H', PostH K G H G' H' mp vs A' → DP K G' v d → Q v H'
  | .ok (.l ds) A' => ∀ p ws G' H', PostH K G H G' H' mp vs A' → H' p = some (.lst ws) → DPs K G' ws ds → G' p = none → H p = none → Q (.ref p) H'
  | .err c pl A' => ∀ cls dd G' H', PostH K G H G' H' mp vs A' → ErrAt mg K G' H' c pl cls dd → E cls (some dd) H'
  | .bad => False
def FSpec (K : PySem.W.Frag) (mg : Str → Option Value) (mp : List Nat) (fm : FM) : Sp := fun vs H Q E => ∃ G A, Ex G H ∧ ArgOk K G H mp vs A ∧ PoF K mg mp G H vs (fm A) Q E
/-- a def keeps its mirror's promise -/
structure FnG (P : Program) (w : World) (K : PySem.W.Frag) (mg : Str → Option Value) (base : Heap) (k : Nat) (f : Addr) (fd : FuncData) (ps : List Str) (mp : List Nat) (fm : FM) : Prop where
  run : ∀ (A : Around) (outer : List Env) (s : Shared) (H : Hp) (args : Args) (us : List Value) (vs : List V) (Q : VK) (E : XK), Room k A → A.guards = some [] → Env0 P w K mg base A outer s H → BindsTo s fd args (ps.zip us) → Vals vs us → vs.length = ps.length → FSpec K mg mp fm vs H Q E →
    codeAny (model P w) A (.call (.ref f) args) (CR (L2.CX P w) outer P w H s Q E) s
theorem FnG.mono {P : Program} {w : World} {K : PySem.W.Frag} {mg : Str → Option Value} {base : Heap} {j k : Nat} {f : Addr} {fd : FuncData} {ps : List Str} {mp : List Nat} {fm : FM} (F : FnG P w K mg base j f fd ps mp fm) (h : j ≤ k) : FnG P w K mg base k f fd ps mp fm :=
  ⟨fun A outer s H args us vs Q E r => F.run A outer s H args us vs Q E (r.mono h)⟩
theorem guards_deeper {A : Around} {env : Env} (h : A.guards = some []) : (A.deeper env).guards = some [] := h

def parM (mp : List Nat) (vs : List V) : List (Nat × Addr) := mp.filterMap fun i => match (vs[i]? : Option V) with
  | some (V.ref l) => some (i, l)
  | _ => none
theorem mem_parM {mp : List Nat} {vs : List V} {i : Nat} {l : Addr} : (i, l) ∈ parM mp vs ↔ i ∈ mp ∧ vs[i]? = some (.ref l) := by
  unfold parM
  rw [List.mem_filterMap]
  constructor
  · rintro ⟨j, hj, h⟩
    split at h
    · rename_i q
      cases h
      exact ⟨hj, q⟩
    · cases h
  · rintro ⟨h1, h2⟩
    exact ⟨i, h1, by rw [h2]⟩
section
variable {P : Program} {w : World} {K : PySem.W.Frag} {mg : Str → Option Value} {base : Heap}
theorem rel_start {G H : Hp} {mp : List Nat} {vs : List V} {A : SS} {N : List Str} (gh : Ex G H) (a : ArgOk K G H mp vs A) (hl : vs.length ≤ N.length) : Rel K ⟨G, H, parM mp vs⟩ G H (L2.start N vs) (A ++ List.replicate (N.length - A.length) .no) := by
  have atσ : ∀ {i : Nat} {v : V}, vs[i]? = some v → (L2.start N vs)[i]? = some (some v) := fun {i v} h => by
    have hi : i < vs.length := (List.getElem?_eq_some_iff.mp h).1
    unfold L2.start
    rw [List.getElem?_append_left (by rw [List.length_map]; exact hi), List.getElem?_map, h]
    rfl
  have atA : ∀ {i : Nat} {s : SV}, (A ++ List.replicate (N.length - A.length) SV.no)[i]? = some s → A[i]? = some s ∨ s = .no := fun {i s} h => by
    by_cases hi : i < A.length
    · rw [List.getElem?_append_left hi] at h
      exact .inl h
    · rw [List.getElem?_append_right (by omega), List.getElem?_replicate] at h
      split at h
      · exact .inr (Option.some.inj h).symm
      · cases h
  refine ⟨gh, Ex.refl _, fun b h => .inl h, fun b o h _ => h, ?_, fun i s h => ?_, fun i j xs ys hij hi hj => ?_, fun m hm => ?_, fun m hm => ?_⟩
  · unfold L2.start
    rw [List.length_append, List.length_append, List.length_map, List.length_replicate, List.length_replicate, a.ln]
  · rcases atA h with q | q
    · have z := a.at_ i s q
      cases s with
      | no => exact z.elim
      | fz d =>
        obtain ⟨_, v, h1, h2⟩ := z
        exact ⟨v, atσ h1, h2⟩
      | ow ds =>
        obtain ⟨h0, l, ws, h1, h2, h3, h4⟩ := z
        exact ⟨l, ws, atσ h1, h2, h3, h4, .inr (mem_parM.mpr ⟨h0, h1⟩)⟩
    · subst q
      trivial
  · have ai : A[i]? = some (.ow xs) := (atA hi).resolve_right (fun z => nomatch z)
    have aj : A[j]? = some (.ow ys) := (atA hj).resolve_right (fun z => nomatch z)
    obtain ⟨_, l, _, h1, _⟩ := a.at_ i _ ai
    obtain ⟨_, l2, _, h2, _⟩ := a.at_ j _ aj
    rw [atσ h1, atσ h2]
    have q := a.ds i j xs ys hij ai aj
    rw [h1, h2] at q
    exact fun z => q (Option.some.inj z)
  · obtain ⟨i, l⟩ := m
    exact atσ (mem_parM.mp hm).2
  · obtain ⟨i, l⟩ := m
    obtain ⟨h1, h2⟩ := mem_parM.mp hm
    obtain ⟨ds, h3⟩ := a.mp i h1
    obtain ⟨_, l', ws, q1, q2, _⟩ := a.at_ i _ h3
    rw [h2] at q1
    cases q1
    exact ⟨_, q2⟩
theorem post_of {G H G' H' : Hp} {mp : List Nat} {vs : List V} {A : SS} {σ : L2.St} {S' : SS} (a : ArgOk K G H mp vs A) (R : Rel K ⟨G, H, parM mp vs⟩ G' H' σ S') (ck : mp.all (owAt (S'.take A.length)) = true) : PostH K G H G' H' mp vs (S'.take A.length) := by
  refine ⟨R.gg, R.gh, fun b o h hm => R.kp b o h fun m hm' e => ?_, fun b h => ?_, fun i hi => ?_⟩
  · obtain ⟨i, l⟩ := m
    obtain ⟨h1, h2⟩ := mem_parM.mp hm'
    have e' : l = b := e
    subst e'
    exact hm i h1 h2
  · rcases R.fr b h with z | z | ⟨⟨i, l⟩, hm, e⟩
    · exact .inl z
    · exact .inr (.inl z)
    · obtain ⟨h1, h2⟩ := mem_parM.mp hm
      have e' : l = b := e
      subst e'
      exact .inr (.inr ⟨i, h1, h2⟩)
  · have q := (List.all_eq_true.mp ck) i hi
    unfold owAt at q
    split at q
    · rename_i ds hd
      have hS : S'[i]? = some (.ow ds) := by
        by_cases hlt : i < A.length
        · rw [List.getElem?_take_of_lt hlt] at hd
          exact hd
        · rw [List.getElem?_eq_none (by rw [List.length_take]; omega)] at hd
          cases hd
      obtain ⟨es, hA⟩ := a.mp i hi
      obtain ⟨_, l, _, hv, _⟩ := a.at_ i _ hA
      have hσ := R.mm (i, l) (mem_parM.mpr ⟨hi, hv⟩)
      obtain ⟨l', ws, q1, q2, q3, q4, _⟩ := R.sl i _ hS
      rw [hσ] at q1
      cases q1
      exact ⟨ds, ws, l, hd, hv, q2, q3, q4⟩
    · cases q
/-- THE RULE for a def: its body runs as its mirror tells -/
theorem fun_g {x qual : Str} {st : Stmt} {f : Addr} {fd : FuncData} {N ps : List Str} {k : Nat} {mp : List Nat} {m : M Fl} (F : Fun K x qual st f fd) (S : FnScope N ps (defScope st))
    (hbody : ∀ (cdv : Value) (A : Around) (outer : List Env) (s : Shared) (H : Hp) (E : XK), Room k (A.deeper (envOfC qual (defScope st) s.heap.objs.size f cdv)) → A.guards = some [] →
      GSs (cxOf (L2.CX P w) P w K mg base N qual (defScope st) f cdv A outer s H E) (fun c d _ H' => E c d H') mp (defBody st) m) : FnG P w K mg base (k + 1) f fd ps mp (fnM N.length mp m) := by
  obtain ⟨oc, od, kV, doc, pm, an, cdv, ct, osl, rfl, lk, hcd⟩ := F.ex
  refine ⟨fun A outer s H args us vs Q E hr hg e0 hb r hl hsp => ?_⟩
  have KX : K.In s.heap := e0.mod.kin.keeps fun b o e => (e0.bs b o e).1
  have lim : s.heap.NoLimit := e0.mod.nolimit.keeps fun b o e => (e0.bs b o e).1
  have hpl : ps.length ≤ N.length := by
    have q := congrArg List.length S.pre
    rw [List.length_take] at q
    omega
  have hkind : ∀ y ∈ ps.zip us, (defScope st).names.lookup y.1 = some .local ∨ ((defScope st).names.lookup y.1 = some .cell ∧ ((cellsFrom (s.heap.objs.size + 1) (defScope st).names []).lookup y.1).isSome = true) := fun y hy => by
    obtain ⟨n, v⟩ := y
    rcases S.par n (List.of_mem_zip hy).1 with q | q
    · exact .inl q
    · exact .inr ⟨q, PySem.W.cellsFrom_some _ _ _ (.inl q)⟩
  refine codeAny_call_function hr.depth (KX _ _ lk) rfl S.co S.gen rfl (PySem.W.codeRec_of KX hcd) (hb _ _ _ _ (wpAny_newFunctionEnv_cells S.kind hkind fun env he s1 x => ?_))
  subst he
  refine ⟨lim.keeps x.toInCall.keep, codeAny_func ?_⟩
  obtain ⟨G, Ar, gh, ao, po⟩ := hsp
  obtain ⟨t, ht, hq⟩ := hbody cdv A outer s H E (hr.deeper _) hg
  have I : Inv (cxOf (L2.CX P w) P w K mg base N qual (defScope st) f cdv A outer s H E) [] (L2.start N vs) H s1 := inv_start S hr.hd e0 hl r x
  have R0 := rel_start (N := N) gh ao (by rw [hl]; exact hpl)
  have fin : ∀ {σ' : L2.St} {H' : Hp} {v : V} {u : Value} {s' : Shared}, Inv (cxOf (L2.CX P w) P w K mg base N qual (defScope st) f cdv A outer s H E) [] σ' H' s' → RelV v u → Q v H' → CE outer P w H s Q u s' :=
    fun J rv q => ⟨_, _, J.os, J.bare, J.base, J.hok, rv, q⟩
  refine wpAny_mono (ht.run [] s1 (L2.start N vs) H { nx := fun _ H' => Q .non H', rt := Q } I (hq ⟨G, H, parM mp vs⟩ G H (L2.start N vs) (Ar ++ List.replicate (N.length - Ar.length) SV.no) _ (fun m hm => (mem_parM.mp (show (m.1, m.2) ∈ parM mp vs from hm)).1) R0 ?_)) (fun fl s' hs => ?_) fun e s' hs => hs
  · unfold fnM at po
    cases hm : m (Ar ++ List.replicate (N.length - Ar.length) .no) with
    | bad => rw [hm] at po; exact po
    | err c pl S' =>
      rw [hm] at po
      simp only at po
      by_cases ck : mp.all (owAt (S'.take Ar.length)) = true
      · rw [if_pos ck] at po
        exact fun cls dd σ' G' H' e1 R1 er => po cls dd G' H' (post_of ao R1 ck) er
      · rw [if_neg ck] at po
        exact po.elim
    | ok fl S' =>
      rw [hm] at po
      simp only at po
      by_cases ck : mp.all (owAt (S'.take Ar.length)) = true
      · rw [if_pos ck] at po
        cases fl with
        | nx => exact fun σ' G' H' e1 R1 => po .non G' H' (post_of ao R1 ck) .non
        | rt d => exact fun v σ' G' H' e1 R1 dv => po v G' H' (post_of ao R1 ck) dv
        | rl ds => exact fun p ws σ' G' H' e1 R1 hp dw gp bp _ => po p ws G' H' (post_of ao R1 ck) hp dw gp bp
        | bk => exact po.elim
        | ct => exact po.elim
      · rw [if_neg ck] at po
        exact po.elim
  · cases fl with
    | ret u =>
      obtain ⟨v, σ', H', J, rv, q⟩ := hs
      exact fin J rv q
    | next =>
      obtain ⟨σ', H', J, q⟩ := hs
      exact fin (v := V.non) (u := Value.none) J rfl q
    | brk =>
      obtain ⟨_, _, _, q⟩ := hs
      exact False.elim q
    | cont =>
      obtain ⟨_, _, _, q⟩ := hs
      exact False.elim q
end

/-- so many values -/
def HasLen (ms : M (List D)) (n : Nat) : Prop := ∀ S ds S', ms S = .ok ds S' → ds.length = n
theorem ml_nil : HasLen mNil 0 := fun S ds S' h => by
  cases h
  rfl
theorem ml_cons {m : M D} {ms : M (List D)} {n : Nat} (h : HasLen ms n) : HasLen (mCons m ms) (n + 1) := fun S ds S' e => by
  unfold mCons at e
  cases h1 : m S with
  | bad => rw [h1] at e; cases e
  | err c pl S1 => rw [h1] at e; cases e
  | ok d S1 =>
    rw [h1, Rs.bind_ok] at e
    cases h2 : ms S1 with
    | bad => rw [h2] at e; cases e
    | err c pl S2 => rw [h2] at e; cases e
    | ok es S2 =>
      rw [h2, Rs.bind_ok] at e
      cases e
      rw [List.length_cons, h _ _ _ h2]

/-! ### calls -/
section
variable {X : Cx} {W : WX} {k : Nat} {f : Addr} {fd : FuncData} {ps : List Str} {mp : List Nat} {fm : FM} {x : Str} {p pos : Pos} {e : Expr} {es : List Expr} {dvs : List V} {dds : List D} {dus : List Value} {ms : M (List D)}
theorem run_g {pins : List (Addr × Obj)} {σ : L2.St} {H : Hp} {s : Shared} {Q : VK} {us : List Value} {vs : List V} (F : FnG X.prog X.w X.K X.mg X.base k f fd ps mp fm) (hr : Room k X.A) (hg : X.A.guards = some []) (hb : Binds X.K fd ps dus) (hd : Vals dvs dus) (tk : Takes X W)
    (I : Inv X pins σ H s) (r : Vals vs us) (hl : (vs ++ dvs).length = ps.length) (h : FSpec X.K X.mg mp fm (vs ++ dvs) H Q (fun c d H' => W c d σ H')) : wpAny (model X.prog X.w) X.A (call (.ref f) us) (EP X pins σ Q) X.xe s := by
  have r2 : Vals (vs ++ dvs) (us ++ dus) := r.append hd
  refine wpAny_call (codeAny_mono (F.run X.A X.stack s H ⟨us, []⟩ (us ++ dus) (vs ++ dvs) Q _ hr hg I.env0 (hb s us I.kIn (by rw [← r2.length]; exact hl)) r2 hl h) fun res s' hq => ?_)
  cases res with
  | error ex => exact tk ex s' (XE.of_call I (fun _ _ _ z => z) hq)
  | ok fl =>
    cases fl with
    | ret u => exact I.after hq
    | next => exact False.elim hq
    | brk => exact False.elim hq
    | cont => exact False.elim hq
def tCallG (K : PySem.W.Frag) (mg : Str → Option Value) (W : WX) (ps : List Str) (mp : List Nat) (fm : FM) (dvs : List V) (t : TA) : TE := fun σ H Q => t σ H fun vs H1 => (vs ++ dvs).length = ps.length ∧ FSpec K mg mp fm (vs ++ dvs) H1 Q (fun c d H' => W c d σ H')
theorem pe_callG {t : TA} (F : FnG X.prog X.w X.K X.mg X.base k f fd ps mp fm) (hr : Room k X.A) (hgd : X.A.guards = some []) (hm : X.mg x = some (.ref f)) (hk : PySem.W.keepIn X.K (.ref f) = true) (hb : Binds X.K fd ps dus) (hd : Vals dvs dus) (tk : Takes X W) (ha : PA X (e :: es) t) (hg : Gl X x)
    (hdb : (x == ("__debug__" : Str)) = false) (he : starEach (e :: es) X.env = (false, eval e X.env) :: starEach es X.env) (hpl : (backTo pos (starEach es X.env)).any (·.1) = false) : PE X (.Call (.Name x p) (e :: es) [] pos) (tCallG X.K X.mg W ps mp fm dvs t) := by
  refine ⟨fun pins s σ H Q I h => ?_⟩
  refine wpAny_Call_Name_kw (ld_glob I hg hm ?_ hdb)
  exact PySem.W.callWith_K (h₀ := X.base) I.ok.mod.kin hk (thn (ha.run pos pins s σ H _ I h) fun us s1 ⟨vs, H1, I1, r, q1, q2⟩ => ⟨I1.kIn, run_g F hr hgd hb hd tk I1 r q1 q2⟩) he hpl
/-- a call without changed arguments -/
def mFn (fm : FM) (dds : List D) (ms : M (List D)) : M D := fun S => (ms S).bind fun ds S1 => match fm ((ds ++ dds).map .fz) with
  | .ok (.v d) _ => .ok d S1
  | .ok (.l es) _ => .ok (.lst es) S1
  | .err c pl _ => .err c pl S1
  | .bad => .bad
def mFnL (fm : FM) (dds : List D) (ms : M (List D)) : M (List D) := fun S => (ms S).bind fun ds S1 => match fm ((ds ++ dds).map .fz) with
  | .ok (.l es) _ => .ok es S1
  | .err c pl _ => .err c pl S1
  | _ => .bad
theorem argOk_fz {K : PySem.W.Frag} {G H : Hp} {vs : List V} {ds : List D} (h : DPs K G vs ds) : ArgOk K G H [] vs (ds.map .fz) := by
  refine ⟨by rw [List.length_map]; exact h.length, fun i s e => ?_, fun i j xs ys _ e => ?_, fun i hi => by cases hi⟩
  · rw [List.getElem?_map] at e
    obtain ⟨d, hd, rfl⟩ := Option.map_eq_some_iff.mp e
    obtain ⟨v, hv, dv⟩ := h.get hd
    exact ⟨by simp, v, hv, dv⟩
  · rw [List.getElem?_map] at e
    obtain ⟨d, hd, z⟩ := Option.map_eq_some_iff.mp e
    cases z
theorem Rel.post0 {K : PySem.W.Frag} {B : Bs} {G H G' H' : Hp} {σ : L2.St} {S A' : SS} {vs : List V} (R : Rel K B G H σ S) (q : PostH K G H G' H' [] vs A') : Rel K B G' H' σ S := by
  have kp : ∀ a o, H a = some o → H' a = some o := fun a o h => q.kp a o h fun i hi => by cases hi
  refine ⟨q.gh, R.gg.trans q.gg, fun a h => ?_, fun a o h hm => kp a o (R.kp a o h hm), R.ln, fun i s h => (R.sl i s h).up q.gg fun l ws h1 h2 => ⟨kp _ _ h1, ?_⟩, R.ds, R.mm, fun m hm => ?_⟩
  · rcases q.fr a h with z | z | ⟨i, hi, _⟩
    · exact R.fr a z
    · exact .inr (.inl (R.noB z))
    · cases hi
  · cases z : G' l with
    | none => rfl
    | some u =>
      rcases q.fr l (by rw [z]; simp) with y | y | ⟨i, hi, _⟩
      · exact absurd h2 y
      · rw [h1] at y
        cases y
      · cases hi
  · obtain ⟨o, ho⟩ := R.mh m hm
    exact ⟨o, kp _ _ ho⟩
theorem ge_call (F : FnG X.prog X.w X.K X.mg X.base k f fd ps [] fm) (hr : Room k X.A) (hgd : X.A.guards = some []) (hm : X.mg x = some (.ref f)) (hk : PySem.W.keepIn X.K (.ref f) = true) (hb : Binds X.K fd ps dus) (hd : Vals dvs dus) (hdd : ∀ G, DPs X.K G dvs dds) (tk : Takes X W) (ha : GA X W (e :: es) ms)
    {n : Nat} (hlen : HasLen ms n := by repeat' (first | exact ml_nil | apply ml_cons)) (hn : n + dvs.length = ps.length := by rfl) (hg : Gl X x := by rfl)
    (hdb : (x == ("__debug__" : Str)) = false := by decide) (he : starEach (e :: es) X.env = (false, eval e X.env) :: starEach es X.env := by rfl) (hpl : (backTo pos (starEach es X.env)).any (·.1) = false := by rfl) : GE X W (.Call (.Name x p) (e :: es) [] pos) (mFn fm dds ms) := by
  obtain ⟨t, pa, qa⟩ := ha
  refine ⟨_, pe_callG F hr hgd hm hk hb hd tk pa hg hdb he hpl, fun B G H σ S Q R h => ?_⟩
  refine qa B G H σ S _ R ?_
  unfold mFn at h
  cases hms : ms S with
  | bad => rw [hms] at h; exact h
  | err c pl S' => rw [hms] at h; exact h
  | ok ds S' =>
    rw [hms, Rs.bind_ok] at h
    intro vs G1 H1 e1 R1 dv
    have dv2 : DPs X.K G1 (vs ++ dvs) (ds ++ dds) := dv.append (hdd G1)
    refine ⟨by rw [List.length_append, dv.length, hlen S ds S' hms]; exact hn, G1, _, R1.gh, argOk_fz dv2, ?_⟩
    cases hf : fm ((ds ++ dds).map .fz) with
    | bad => rw [hf] at h; exact h.elim
    | err c pl A' =>
      rw [hf] at h
      exact fun cls dd G' H' po er => h cls dd G' H' (e1.trans po.gg) (R1.post0 po) er
    | ok r A' =>
      rw [hf] at h
      cases r with
      | v d => exact fun v G' H' po dv => h v G' H' (e1.trans po.gg) (R1.post0 po) dv
      | l us =>
        intro p ws G' H' po hp dw gp bp
        have R' := R1.post0 po
        have ex : Ex G' (upd G' p (.lst ws)) := Ex.new gp
        refine h _ _ H' ((e1.trans po.gg).trans ex) (R'.freeze hp gp (.inl (R1.noB bp)) fun i xs hi hσ => ?_) (.lst upd_same (dw.mono ex))
        exact R1.noS bp i xs hi hσ
theorem gl_call (F : FnG X.prog X.w X.K X.mg X.base k f fd ps [] fm) (hr : Room k X.A) (hgd : X.A.guards = some []) (hm : X.mg x = some (.ref f)) (hk : PySem.W.keepIn X.K (.ref f) = true) (hb : Binds X.K fd ps dus) (hd : Vals dvs dus) (hdd : ∀ G, DPs X.K G dvs dds) (tk : Takes X W) (ha : GA X W (e :: es) ms)
    {n : Nat} (hlen : HasLen ms n := by repeat' (first | exact ml_nil | apply ml_cons)) (hn : n + dvs.length = ps.length := by rfl) (hg : Gl X x := by rfl)
    (hdb : (x == ("__debug__" : Str)) = false := by decide) (he : starEach (e :: es) X.env = (false, eval e X.env) :: starEach es X.env := by rfl) (hpl : (backTo pos (starEach es X.env)).any (·.1) = false := by rfl) : GL X W (.Call (.Name x p) (e :: es) [] pos) (mFnL fm dds ms) := by
  obtain ⟨t, pa, qa⟩ := ha
  refine ⟨_, pe_callG F hr hgd hm hk hb hd tk pa hg hdb he hpl, fun B G H σ S Q R h => ?_⟩
  refine qa B G H σ S _ R ?_
  unfold mFnL at h
  cases hms : ms S with
  | bad => rw [hms] at h; exact h
  | err c pl S' => rw [hms] at h; exact h
  | ok ds S' =>
    rw [hms, Rs.bind_ok] at h
    intro vs G1 H1 e1 R1 dv
    have dv2 : DPs X.K G1 (vs ++ dvs) (ds ++ dds) := dv.append (hdd G1)
    refine ⟨by rw [List.length_append, dv.length, hlen S ds S' hms]; exact hn, G1, _, R1.gh, argOk_fz dv2, ?_⟩
    cases hf : fm ((ds ++ dds).map .fz) with
    | bad => rw [hf] at h; exact h.elim
    | err c pl A' =>
      rw [hf] at h
      exact fun cls dd G' H' po er => h cls dd G' H' (e1.trans po.gg) (R1.post0 po) er
    | ok r A' =>
      rw [hf] at h
      cases r with
      | v d => exact h.elim
      | l us => exact fun p ws G' H' po hp dw gp bp => h p ws G' H' (e1.trans po.gg) (R1.post0 po) hp dw gp (R1.noB bp) (R1.noS bp)
end

/-! ### a call whose first argument is an owned name that the def may change -/
def mFnM (k : Nat) (fm : FM) (ms : M (List D)) : M D := fun S => match S[k]? with
  | some (.ow _) => (ms S).bind fun ds S1 => match S1[k]? with
    | some (.ow es) => match fm (.ow es :: ds.map .fz) with
      | .ok (.v d) A' => match (A'[0]? : Option SV) with
        | some (SV.ow es') => .ok d (S1.set k (.ow es'))
        | _ => .bad
      | .ok (.l us) A' => match (A'[0]? : Option SV) with
        | some (SV.ow es') => .ok (.lst us) (S1.set k (.ow es'))
        | _ => .bad
      | .err c pl A' => match (A'[0]? : Option SV) with
        | some (SV.ow es') => .err c pl (S1.set k (.ow es'))
        | _ => .bad
      | .bad => .bad
    | _ => .bad
  | _ => .bad
section
variable {K : PySem.W.Frag} {B : Bs} {G H G' H' : Hp} {σ : L2.St} {S A' : SS} {vs : List V}
theorem Rel.post1 {k : Nat} {l : Addr} {es es' : List D} (R : Rel K B G H σ S) (hk : S[k]? = some (SV.ow es)) (hσ : σ[k]? = some (some (.ref l))) (q : PostH K G H G' H' [0] (.ref l :: vs) A') (ha : A'[0]? = some (SV.ow es')) : Rel K B G' H' σ (S.set k (.ow es')) := by
  obtain ⟨l', ws0, p1, p2, p3, p4, p5⟩ := R.sl k _ hk
  rw [hσ] at p1
  cases p1
  have hi : k < S.length := (List.getElem?_eq_some_iff.mp hk).1
  have kp : ∀ a o, H a = some o → a ≠ l → H' a = some o := fun a o h n => q.kp a o h fun i hi e => by
    have : i = 0 := by simpa using hi
    subst this
    exact n (V.ref.inj (Option.some.inj e)).symm
  have fr : ∀ a, G' a ≠ none → G a ≠ none ∨ H a = none ∨ a = l := fun a h => by
    rcases q.fr a h with z | z | ⟨i, hi, e⟩
    · exact .inl z
    · exact .inr (.inl z)
    · have : i = 0 := by simpa using hi
      subst this
      exact .inr (.inr (V.ref.inj (Option.some.inj e)).symm)
  obtain ⟨ds, ws, l2, m1, m2, m3, m4, m5⟩ := q.mu 0 (by simp)
  have e2 : l = l2 := V.ref.inj (Option.some.inj m2)
  subst e2
  rw [ha] at m1
  cases m1
  refine ⟨q.gh, R.gg.trans q.gg, fun a h => ?_, fun a o h hm => ?_, by rw [List.length_set]; exact R.ln, fun j s h => ?_, fun i j xs ys hij hi' hj' => ?_, R.mm, fun m hm => ?_⟩
  · rcases fr a h with z | z | z
    · exact R.fr a z
    · exact .inr (.inl (R.noB z))
    · subst z
      rcases p5 with y | y
      · exact .inr (.inl y)
      · exact .inr (.inr ⟨_, y, rfl⟩)
  · refine kp a o (R.kp a o h hm) fun e => ?_
    subst e
    rcases p5 with y | y
    · rw [y] at h
      cases h
    · exact hm _ y rfl
  · by_cases ej : j = k
    · subst ej
      rw [List.getElem?_set_self hi] at h
      cases h
      exact ⟨l, ws, hσ, m3, m4, m5, p5⟩
    · rw [List.getElem?_set_ne (Ne.symm ej)] at h
      have z := R.sl j s h
      cases s with
      | no => trivial
      | fz d =>
        obtain ⟨v, z1, z2⟩ := z
        exact ⟨v, z1, z2.mono q.gg⟩
      | ow fs =>
        obtain ⟨l3, us, z1, z2, z3, z4, z5⟩ := z
        have ne : l3 ≠ l := fun e => R.ds j k fs es ej h hk (by rw [z1, hσ, e])
        refine ⟨l3, us, z1, kp _ _ z2 ne, z3.mono q.gg, ?_, z5⟩
        cases y : G' l3 with
        | none => rfl
        | some u =>
          rcases fr l3 (by rw [y]; simp) with x | x | x
          · exact absurd z4 x
          · rw [z2] at x
            cases x
          · exact absurd x ne
  · have rd : ∀ {j : Nat} {zs : List D}, (S.set k (SV.ow es'))[j]? = some (SV.ow zs) → ∃ zs', S[j]? = some (SV.ow zs') := fun {j zs} h => by
      by_cases e : j = k
      · subst e
        exact ⟨es, hk⟩
      · rw [List.getElem?_set_ne (Ne.symm e)] at h
        exact ⟨zs, h⟩
    obtain ⟨xs', hx⟩ := rd hi'
    obtain ⟨ys', hy⟩ := rd hj'
    exact R.ds i j xs' ys' hij hx hy
  · by_cases e : m.2 = l
    · rw [e]
      exact ⟨_, m3⟩
    · obtain ⟨o, ho⟩ := R.mh m hm
      exact ⟨o, kp _ _ ho e⟩
end
theorem argOk_ow {K : PySem.W.Frag} {G H : Hp} {vs ws : List V} {ds es : List D} {l : Addr} (h : DPs K G vs ds) (hl : H l = some (.lst ws)) (he : DPs K G ws es) (gl : G l = none) : ArgOk K G H [0] (.ref l :: vs) (.ow es :: ds.map .fz) := by
  refine ⟨by rw [List.length_cons, List.length_cons, List.length_map, h.length], fun i s e => ?_, fun i j xs ys ij e1 e2 => ?_, fun i hi => ?_⟩
  · cases i with
    | zero =>
      have e' := Option.some.inj e
      subst e'
      exact ⟨by simp, l, ws, rfl, hl, he, gl⟩
    | succ i =>
      have e' : (ds.map SV.fz)[i]? = some s := e
      rw [List.getElem?_map] at e'
      obtain ⟨d, hd, rfl⟩ := Option.map_eq_some_iff.mp e'
      obtain ⟨v, hv, dv⟩ := h.get hd
      exact ⟨by simp, v, hv, dv⟩
  · have nx : ∀ {i : Nat} {xs : List D}, (SV.ow es :: ds.map SV.fz)[i]? = some (SV.ow xs) → i = 0 := fun {i xs} e => by
      cases i with
      | zero => rfl
      | succ i =>
        have e' : (ds.map SV.fz)[i]? = some (SV.ow xs) := e
        rw [List.getElem?_map] at e'
        obtain ⟨d, hd, z⟩ := Option.map_eq_some_iff.mp e'
        cases z
    exact absurd ((nx e1).trans (nx e2).symm) ij
  · have : i = 0 := by simpa using hi
    subst this
    exact ⟨es, rfl⟩
section
variable {X : Cx} {W : WX} {k : Nat} {f : Addr} {fd : FuncData} {ps : List Str} {fm : FM} {x y : Str} {p p2 pos : Pos} {es : List Expr} {ms : M (List D)}
theorem ge_callM (j : Nat) (F : FnG X.prog X.w X.K X.mg X.base k f fd ps [0] fm) (hr : Room k X.A) (hgd : X.A.guards = some []) (hm : X.mg x = some (.ref f)) (hk : PySem.W.keepIn X.K (.ref f) = true) (hb : Binds X.K fd ps []) (tk : Takes X W) (ha : GA X W es ms)
    {n : Nat} (hlen : HasLen ms n := by repeat' (first | exact ml_nil | apply ml_cons)) (hn : n + 1 = ps.length := by rfl) (hN : X.N[j]? = some y := by rfl) (hv : Vis X.env.scope y := by first | exact Or.inl rfl | exact Or.inr (Or.inl rfl) | exact Or.inr (Or.inr rfl))
    (hyd : (y == ("__debug__" : Str)) = false := by decide) (hycd : (y == ("__classdict__" : Str)) = false := by decide) (hg : Gl X x := by rfl)
    (hdb : (x == ("__debug__" : Str)) = false := by decide) (he : starEach (.Name y p2 :: es) X.env = (false, eval (.Name y p2) X.env) :: starEach es X.env := by rfl) (hpl : (backTo pos (starEach es X.env)).any (·.1) = false := by rfl) : GE X W (.Call (.Name x p) (.Name y p2 :: es) [] pos) (mFnM j fm ms) := by
  obtain ⟨t, pa, qa⟩ := ha
  refine ⟨_, pe_callG F hr hgd hm hk hb .nil tk (pa_cons (pe_var hN hv hyd hycd) pa he) hg hdb he hpl, fun B G H σ S Q R h => ?_⟩
  unfold mFnM at h
  split at h
  · rename_i es0 hk0
    obtain ⟨l, _, hσ, _⟩ := R.sl j _ hk0
    refine ⟨_, hσ, qa B G H σ S _ R ?_⟩
    cases hms : ms S with
    | bad => rw [hms] at h; exact h
    | err c pl S' => rw [hms] at h; exact h
    | ok ds S' =>
      rw [hms, Rs.bind_ok] at h
      intro vs G1 H1 e1 R1 dv
      split at h
      · rename_i es1 hk1
        obtain ⟨l', ws, q1, q2, q3, q4⟩ := R1.own hk1 hσ
        cases q1
        refine ⟨by rw [List.append_nil, List.length_cons, dv.length, hlen S ds S' hms]; exact hn, G1, _, R1.gh, by rw [List.append_nil]; exact argOk_ow dv q2 q3 q4, ?_⟩
        rw [List.append_nil]
        cases hf : fm (.ow es1 :: ds.map .fz) with
        | bad => rw [hf] at h; exact h.elim
        | err c pl A' =>
          rw [hf] at h
          simp only at h
          split at h
          · rename_i es' ha'
            exact fun cls dd G' H' po er => h cls dd G' H' (e1.trans po.gg) (R1.post1 hk1 hσ po ha') er
          · exact h.elim
        | ok r A' =>
          rw [hf] at h
          cases r with
          | v d =>
            simp only at h
            split at h
            · rename_i es' ha'
              exact fun v G' H' po dv => h v G' H' (e1.trans po.gg) (R1.post1 hk1 hσ po ha') dv
            · exact h.elim
          | l us =>
            simp only at h
            split at h
            · rename_i es' ha'
              intro p ws G' H' po hp dw gp bp
              have R' := R1.post1 hk1 hσ po ha'
              have ex : Ex G' (upd G' p (.lst ws)) := Ex.new gp
              refine h _ _ H' ((e1.trans po.gg).trans ex) (R'.freeze hp gp (.inl (R1.noB bp)) fun i xs hi hσi => ?_) (.lst upd_same (dw.mono ex))
              by_cases ei : i = j
              · subst ei
                rw [hσ] at hσi
                cases hσi
                rw [q2] at bp
                cases bp
              · rw [List.getElem?_set_ne (Ne.symm ei)] at hi
                exact R1.noS bp i xs hi hσi
            · exact h.elim
      · exact h.elim
  · exact h.elim
end

/-! ### the law's end -/
def Hent (a : Addr) (vs : List Value) (ns : List Int) (k : Bool) : Hp := fun b => if k = true ∧ b = a then some (.frz { cls := .type "list", data := .seq vs.toArray } (.lst (ns.map V.int))) else none
theorem law_g {P : Program} {w : World} {K : PySem.W.Frag} {mg mb : Str → Option Value} {k : Nat} {fa a : Addr} {fd : FuncData} {x : Str} {fm : FM} {s₁ : Shared} {vs : List Value} {ns : List Int}
    (KX : K.In s₁.heap) (hns : s₁.heap.Ns mainGlobals mg) (hb : s₁.heap.Ns builtinsNs mb) (hbb : ∀ x : Str, x ≠ "__name__" → mb x = bootBuiltins x) (hlim : s₁.heap.NoLimit) (hg : s₁.gens = #[])
    (ha : s₁.heap.get? a = some { cls := .type "list", data := .seq vs.toArray }) (hi : IntsAre vs ns) (hl : ns.length ≤ sizeLine) (hr : Room k callerA)
    (F : ∀ base : Heap, K.In base → base.Ns mainGlobals mg → FnG P w K mg base k fa fd [x] [] fm) (hbind : ∀ (s : Shared) (u : Value), BindsTo s fd ⟨[u], []⟩ [(x, u)])
    (hfm : ∃ A', fm [.fz (.scr ns)] = .ok (.v (.bl true)) A') :
    codeAny (model P w) callerA (.call (.ref fa) ⟨[.ref a], []⟩) (fun r s' => r = .ok (.ret (.bool true)) ∧ OldK s₁.heap s'.heap ∧ s'.os = s₁.os ∧ AllBare s'.gens) s₁ := by
  have rv := vals_ints hi
  obtain ⟨A', hfm⟩ := hfm
  -- whether the script is an object of the written part
  obtain ⟨kb, hkb⟩ : ∃ kb : Bool, kb = (K.lookup a).isNone := ⟨_, rfl⟩
  have hA : ∀ b, Hent a vs ns kb b ≠ none → kb = true ∧ b = a := fun b h => by
    unfold Hent at h
    by_cases z : kb = true ∧ b = a
    · exact z
    · rw [if_neg z] at h
      exact absurd rfl h
  have hfrz : ∀ b u, Hent a vs ns kb b = some u → b = a ∧ u = .frz { cls := .type "list", data := .seq vs.toArray } (.lst (ns.map V.int)) := fun b u h => by
    have z := hA b (by rw [h]; simp)
    unfold Hent at h
    rw [if_pos z] at h
    exact ⟨z.2, (Option.some.inj h).symm⟩
  have hok : HOk P w (Hent a vs ns kb) s₁.heap := fun b u h => by
    obtain ⟨rfl, rfl⟩ := hfrz b u h
    exact ⟨ha, by rw [List.length_map]; exact hl, vs, _, rv, ha⟩
  have hS : SqL K (Hent a vs ns kb) a (ns.map V.int) := by
    cases hk : K.lookup a with
    | none =>
      rw [hk] at hkb
      refine .inl (.inr ⟨{ cls := .type "list", data := .seq vs.toArray }, ?_⟩)
      unfold Hent
      rw [if_pos ⟨hkb, rfl⟩]
    | some o =>
      have e := KX a o hk
      rw [ha] at e
      cases e
      exact .inr ⟨_, vs.toArray, _, hk, rfl, rfl, rfl, by rw [List.size_toArray, hi.length]; exact hl, by simpa using rv⟩
  have noK : ∀ {b : Addr} {o : Obj}, K.lookup b = some o → Hent a vs ns kb b = none := fun {b o} e => by
    cases q : Hent a vs ns kb b with
    | none => rfl
    | some u =>
      obtain ⟨z1, z2⟩ := hA b (by rw [q]; simp)
      subst z2
      rw [e] at hkb
      rw [hkb] at z1
      cases z1
  have keep : ∀ {b : Addr} {o : Obj}, s₁.heap.get? b = some o → Hent a vs ns kb b = none → (hidT s₁.heap (Hent a vs ns kb)).get? b = some o := fun e n => hidT_get e n
  have noD : ∀ {b : Addr} {o : Obj} {es : Array DictEntry} {ep : Nat}, s₁.heap.get? b = some o → o.data = .dict es ep → Hent a vs ns kb b = none := fun {b o es ep} e d => by
    cases q : Hent a vs ns kb b with
    | none => rfl
    | some u =>
      obtain ⟨rfl, _⟩ := hfrz b u q
      rw [ha] at e
      cases e
      cases (show Data.seq vs.toArray _ = Data.dict es ep from d)
  have nsK : ∀ {b : Addr} {m : Str → Option Value}, s₁.heap.Ns b m → (hidT s₁.heap (Hent a vs ns kb)).Ns b m := fun {b m} h => by
    obtain ⟨o, es, ep, e, d, r⟩ := h
    exact ⟨o, es, ep, keep e (noD e d), d, r⟩
  have hKb : K.In (hidT s₁.heap (Hent a vs ns kb)) := fun b o e => keep (KX b o e) (noK e)
  have hM : Mod K mg (hidT s₁.heap (Hent a vs ns kb)) := ⟨hKb, nsK hns, ⟨mb, nsK hb, hbb⟩, by
    obtain ⟨mc, h1, h2⟩ := hlim
    exact ⟨mc, nsK h1, h2⟩⟩
  have nil : ∀ b : Addr, b ∉ frs ([] : List Env) := fun b z => absurd (show b ∈ ([] : List Addr) from z) (by simp)
  have e0 : Env0 P w K mg (hidT s₁.heap (Hent a vs ns kb)) callerA [] s₁ (Hent a vs ns kb) := ⟨rfl, hM, fun b o e => of_hidT e, Nat.le_of_eq (hidT_size _ _), trivial, fun b hb => absurd hb (nil b), hok, .of_eq hg⟩
  have spec : FSpec K mg [] fm [.ref a] (Hent a vs ns kb) (fun v _ => v = .bl true) (fun _ _ _ => False) := by
    refine ⟨Hent a vs ns kb, [.fz (.scr ns)], Ex.refl _, argOk_fz (ds := [.scr ns]) (.one (.scr hS)), ?_⟩
    rw [hfm]
    intro v G' H' _ dv
    cases dv
    rfl
  refine codeAny_mono ((F _ hKb (nsK hns)).run callerA [] s₁ _ ⟨[.ref a], []⟩ [.ref a] [.ref a] _ _ hr rfl e0 (hbind s₁ (.ref a)) (.cons rfl .nil) rfl spec) fun r s' h => ?_
  cases r with
  | error e =>
    obtain ⟨_, _, _, _, _, _, _, _, _, _, _, _, z⟩ := h
    exact z.elim
  | ok fl =>
    cases fl with
    | next => exact False.elim h
    | brk => exact False.elim h
    | cont => exact False.elim h
    | ret u =>
      obtain ⟨v, H', os, bare, un, hok', r', q⟩ := h
      have q' : v = .bl true := q
      subst q'
      obtain rfl : u = Value.bool true := r'
      refine ⟨rfl, OldK.of_keep fun b o e => ?_, os, bare⟩
      cases q : Hent a vs ns kb b with
      | none => exact un.keep b o e q (nil b) (by simp)
      | some u =>
        obtain ⟨rfl, rfl⟩ := hfrz b u q
        have z2 := un.frzs b _ _ q
        obtain ⟨e1, _⟩ := hok b _ q
        obtain ⟨e2, _⟩ := hok' b _ z2
        rw [e] at e1
        cases e1
        exact e2
theorem walk_g {l : PySem.W.OpenLaw} {n k : Nat} {q : Program} {loose : List Str} {XP : (Str → Option Value) → Heap → Prop} {YP : World → Heap → Prop} {d : DefRec} {K : Params → PySem.W.Frag} {x : Str} {fm : FM}
    (hn : l.most = some n) (hn2 : n ≤ sizeLine) (hdf : d.params.defaults = []) (hr : Room k callerA) (hY : ∀ (w : World) (h : Heap), YP w h → (K w.params).In h)
    (F : ∀ (w : World) (mg : Str → Option Value) (fa : Addr) (h : Heap), (K w.params).In h → h.Ns mainGlobals mg → mg d.name = some (.ref fa) →
      ∃ fd : FuncData, (∀ (s : Shared) (u : Value), BindsTo s fd ⟨[u], []⟩ [(x, u)]) ∧ ∀ base : Heap, (K w.params).In base → base.Ns mainGlobals mg → FnG l.prog w (K w.params) mg base k fa fd [x] [] fm)
    (hfm : ∀ ns : List Int, ns.length ≤ n → ∃ A', fm [.fz (.scr ns)] = .ok (.v (.bl true)) A') :
    PySem.W.WalkO q loose XP YP l.row.toRowW d [] (fun f vs => PySem.call f vs) := by
  refine Att.attach_call hn hdf fun w s₀ s₁ mg mb fa o pm cd doc a vs ns G Y ho hd hcd hmg hobj hints hlen hg => ?_
  have KX := hY w _ Y
  obtain ⟨fd, hb, hF⟩ := F w mg fa _ KX G.T.g hmg
  exact law_g KX G.T.g G.T.b G.T.builtins G.T.nolimit hg hobj hints (Nat.le_trans hlen hn2) hr hF hb (hfm ns hlen)
end Q4


set_option Elab.async false
set_option linter.all false
set_option maxRecDepth 100000
set_option maxHeartbeats 4000000
/-! Part F: repr, isinstance, slices with a step, is, enumerate, zip, reversed. -/
namespace Q4
open PySem PySem.Spec PyProof.Rows L2 Evl

/-! ### repr -/
mutual
theorem D.noDict : ∀ d : D, d.py.hasDict = false
  | .non => by simp [D.py, PyData.hasDict]
  | .bl b => by simp [D.py, PyData.hasDict]
  | .int i => by simp [D.py, PyData.hasDict]
  | .str s => by simp [D.py, PyData.hasDict]
  | .lst ds => by simpa [D.py, PyData.hasDict] using D.noDicts ds
  | .tup ds => by simpa [D.py, PyData.hasDict] using D.noDicts ds
  | .ins _ _ _ => by simp [D.py, PyData.hasDict]
  | .scr _ => by simp [D.py, PyData.hasDict]
theorem D.noDicts : ∀ ds : List D, PyData.hasDictAll (D.pys ds) = false
  | [] => by simp [D.pys, PyData.hasDictAll]
  | d :: ds => by simp [D.pys, PyData.hasDictAll, D.noDict d, D.noDicts ds]
end
def rRepr (K : PySem.W.Frag) : List V → Hp → VK → Prop := fun xs H Q => ∃ x d, xs = [x] ∧ Dp K H x d ∧ d.showable = true ∧ d.hasDict = false ∧ d.depth < 60 ∧ d.shown.length ≤ sizeLine ∧ Q (.str d.shown) H
section
variable {X : Cx}
theorem call_reprD (hu : X.A.units + 64 < cLine) (hg : X.A.guards = some []) : CallR X (.builtin "repr") (rRepr X.K) := by
  intro pins s σ H xs us Q I r h
  obtain ⟨x, d, rfl, hd, h1, h2, h3, h4, q⟩ := h
  obtain ⟨u, rfl, ru⟩ := vals1 r
  obtain ⟨as, rd⟩ := Dp.reads I d x u hd ru
  have go : ∀ t tk, EP X pins σ Q (.str d.shown t) { s with toks := tk } := fun t tk => ⟨.str d.shown, H, I.tok _, ⟨_, rfl⟩, q⟩
  have rf : ∀ a : Addr, u = .ref a → wpAny (model X.prog X.w) X.A (call (.builtin "repr") [.ref a]) (EP X pins σ Q) X.xe s := fun a e => by
    subst e
    refine repr_of_reads' rd h1 (PyData.noDict_hsm h2) hg (by omega) (fun b o e => e) (fun h' t tk hk => ?_) h4
    exact ⟨.str d.shown, H, I.kept (t' := tk) hk, ⟨_, rfl⟩, q⟩
  cases rd with
  | none => exact PySem.P.repr_of_none (go _ _)
  | bool b => exact PySem.P.repr_of_bool (go _ _)
  | int i t => exact PySem.P.repr_of_int (by simpa [PyData.showable] using h1) (go _ _)
  | str y t => exact PySem.P.repr_of_str (go _ _) h4
  | list _ _ _ _ => exact rf _ rfl
  | tuple _ _ _ _ => exact rf _ rfl
  | dict _ _ _ _ _ => exact rf _ rfl
end
def D.okR (d : D) : Prop := d.flat = true ∧ d.py.showable = true ∧ d.py.depth < 60 ∧ d.py.shown.length ≤ cap
instance (d : D) : Decidable d.okR := by unfold D.okR; exact inferInstance
def dRepr : List D → Option D
  | [d] => if d.okR then some (.str d.py.shown) else none
  | _ => none
theorem cd_repr {K : PySem.W.Frag} : CallD K (rRepr K) dRepr := by
  intro vs ds d G H Q e hs gh k
  unfold dRepr at e
  split at e
  · split at e
    · rename_i hz
      cases e
      obtain ⟨z1, z2, z3, z4⟩ := hz
      cases hs with
      | cons h1 h2 =>
        cases h2
        exact ⟨_, _, rfl, (h1.mono gh).py z1, z2, D.noDict _, z3, cap_le z4, k _ G H .refl (.str _)⟩
    · cases e
  · cases e

/-! ### isinstance(e, T), T a built-in type -/
def D.ty : D → String
  | .non => "NoneType" | .bl _ => "bool" | .int _ => "int" | .str _ => "str" | .lst _ => "list" | .scr _ => "list" | .tup _ => "tuple" | .ins _ _ _ => ""
def D.isIns : D → Bool
  | .ins _ _ _ => true | _ => false
def dIsi (T : String) (d : D) : Option D := if d.isIns = true then none else (kitB d.ty T).map .bl
def mIsi (T : String) (m : M D) : M D := fun S => (m S).bind fun d S1 => Rs.lift (dIsi T d) S1
theorem DP.tyX {K : PySem.W.Frag} {H : Hp} {v : V} {d : D} (h : DP K H v d) (n : d.isIns = false) : TyX K H v (.type d.ty) := by
  cases h with
  | non => exact .base .non
  | bl b => exact .base (.bl b)
  | int i => exact .base (.int i)
  | str x => exact .base (.str x)
  | lst h _ => exact .base (.lst h)
  | tup h _ =>
    rcases h with (h | ⟨o, h⟩) | ⟨o, its, m, hk, hc, _⟩
    · exact .base (.tup h)
    · exact .fTuple h
    · exact .kTuple hk hc
  | ins _ _ _ _ => exact absurd n (by simp [D.isIns])
  | scr h =>
    rcases h with (h | ⟨o, h⟩) | ⟨o, its, m, hk, hc, _⟩
    · exact .base (.lst h)
    · exact .base (.frz h)
    · exact .kList hk hc
section
variable {X : Cx} {W : WX} {e : Expr} {m : M D} {p p2 pos : Pos}
theorem ge_isi {x : Str} (T : String) (hm : X.mg "isinstance" = none) (hmT : X.mg x = none) (hvT : bootBuiltins x = some (.type T)) (ha : GE X W e m) (hg : Gl X "isinstance" := by rfl) (hgT : Gl X x := by rfl)
    (hdT : (x == ("__debug__" : Str)) = false := by decide) (hnT : x ≠ "__name__" := by decide)
    (hs : starEach [e, .Name x p2] X.env = (false, eval e X.env) :: starEach [.Name x p2] X.env := by rfl) (hs2 : starEach [.Name x p2] X.env = (false, eval (.Name x p2) X.env) :: starEach [] X.env := by rfl)
    (hpl : (backTo pos (starEach [.Name x p2] X.env)).any (·.1) = false := by rfl) :
    GE X W (.Call (.Name "isinstance" p) [e, .Name x p2] [] pos) (mIsi T m) := by
  obtain ⟨t, pa, qa⟩ := ha
  refine ⟨_, pe_callB call_isi hg hm boot_isinstance (pa_cons pa (pa_cons (pe_bltn (v := .ty T) hgT hmT hvT rfl hnT hdT) pa_nil hs2) hs) (by decide) (by decide) hs hpl, fun B G H σ S Q R h => ?_⟩
  refine qa B G H σ S _ R ?_
  unfold mIsi at h
  cases hms : m S with
  | bad => rw [hms] at h; exact h
  | err c pl S' => rw [hms] at h; exact h
  | ok d S' =>
    rw [hms, Rs.bind_ok] at h
    intro v G1 H1 e1 R1 d1
    unfold dIsi at h
    split at h
    · exact h.elim
    · rename_i n
      cases hk : kitB d.ty T with
      | none => rw [hk] at h; exact h.elim
      | some b =>
        rw [hk] at h
        exact ⟨v, .ty T, _, _, b, rfl, .ty T, (d1.mono R1.gh).tyX (by simpa using n), kit_ty hk, h _ G1 H1 e1 R1 (.bl b)⟩
end

/-! ### a tuple's slice with a step -/
/-- the places of a slice -/
def stepAt (lo hi : Option Int) (k : Int) (n : Nat) : Int × Nat := match Builtin.Slice.sliceAdjust lo hi k (n : Int) with
  | (i, j) => (i, Builtin.Slice.slicePlaces i j k)
def pickA {α : Type} (xs : List α) (lo hi : Option Int) (k : Int) : List α := (List.range (stepAt lo hi k xs.length).2).filterMap fun (m : Nat) => xs[((stepAt lo hi k xs.length).1 + (m : Int) * k).toNat]?
def wholeA (lo hi : Option Int) (k : Int) (n : Nat) : Bool := (stepAt lo hi k n).1 == 0 && k == 1 && (stepAt lo hi k n).2 == n
theorem DPs.some_of {K : PySem.W.Frag} {G : Hp} {vs : List V} {ds : List D} (h : DPs K G vs ds) (i : Nat) : (vs[i]? = none ∧ ds[i]? = none) ∨ ∃ v d, vs[i]? = some v ∧ ds[i]? = some d ∧ DP K G v d := by
  cases e : ds[i]? with
  | none => exact .inl ⟨by rw [List.getElem?_eq_none_iff] at e ⊢; rw [h.length]; exact e, rfl⟩
  | some d =>
    obtain ⟨v, hv, dv⟩ := h.get e
    exact .inr ⟨v, d, hv, rfl, dv⟩
theorem DPs.pickL {K : PySem.W.Frag} {G : Hp} {vs : List V} {ds : List D} (h : DPs K G vs ds) (f : Nat → Nat) : ∀ l : List Nat, DPs K G (l.filterMap fun m => vs[f m]?) (l.filterMap fun m => ds[f m]?)
  | [] => .nil
  | m :: l => by
    rcases h.some_of (f m) with ⟨e1, e2⟩ | ⟨v, d, e1, e2, dv⟩
    · rw [List.filterMap_cons_none (f := fun m => vs[f m]?) e1, List.filterMap_cons_none (f := fun m => ds[f m]?) e2]
      exact DPs.pickL h f l
    · rw [List.filterMap_cons_some (f := fun m => vs[f m]?) e1, List.filterMap_cons_some (f := fun m => ds[f m]?) e2]
      exact .cons dv (DPs.pickL h f l)
theorem DPs.pickA {K : PySem.W.Frag} {G : Hp} {vs : List V} {ds : List D} (h : DPs K G vs ds) (lo hi : Option Int) (k : Int) : DPs K G (Q4.pickA vs lo hi k) (Q4.pickA ds lo hi k) := by
  unfold Q4.pickA
  rw [h.length]
  exact h.pickL (fun m => ((stepAt lo hi k ds.length).1 + (m : Int) * k).toNat) _
theorem vals_pickL {vs : List V} {us : List Value} (h : Vals vs us) (f : Nat → Nat) : ∀ l : List Nat, Vals (l.filterMap fun m => vs[f m]?) (l.filterMap fun m => us[f m]?)
  | [] => .nil
  | m :: l => by
    cases e : vs[f m]? with
    | none =>
      have e2 : us[f m]? = none := by rw [List.getElem?_eq_none_iff] at e ⊢; rw [← h.length]; exact e
      rw [List.filterMap_cons_none (f := fun m => vs[f m]?) e, List.filterMap_cons_none (f := fun m => us[f m]?) e2]
      exact vals_pickL h f l
    | some v =>
      obtain ⟨u, e2, r⟩ := h.get e
      rw [List.filterMap_cons_some (f := fun m => vs[f m]?) e, List.filterMap_cons_some (f := fun m => us[f m]?) e2]
      exact .cons r (vals_pickL h f l)
theorem pickA_length {α : Type} {xs : List α} {lo hi : Option Int} {k : Int} : (pickA xs lo hi k).length ≤ (stepAt lo hi k xs.length).2 := by
  unfold pickA
  refine Nat.le_trans (List.length_filterMap_le _ _) ?_
  rw [List.length_range]
  exact Nat.le_refl _
section
variable {prog : Program} {w : World} {A : Around} {E : Value → Shared → Prop} {s : Shared}
theorem sliceApplied_step {sl : Addr} {vl vu vs : Value} {lo hi : Option Int} {k : Int} {n : Nat} {Q : Int × Int × Nat → Shared → Prop} (hs : s.heap.IsSliceOf sl vl vu vs) (pl : IsPart vl lo) (pu : IsPart vu hi) (ps : IsPart vs (some k)) (hk : k ≠ 0)
    (h : Q ((stepAt lo hi k n).1, k, (stepAt lo hi k n).2) s) : wpAny (model prog w) A (Builtin.Slice.sliceApplied (.ref sl) (pure (n : Int))) Q E s := by
  obtain ⟨os, hos, hcs, hds⟩ := id hs
  unfold Builtin.Slice.sliceApplied Builtin.Slice.sliceFields
  refine wpAny_bind (wpAny_bind (wpAny_field hos hds (x := vl) rfl (wpAny_bind (wpAny_field hos hds (x := vu) rfl (wpAny_bind (wpAny_field hos hds (x := vs) rfl (wpAny_pure ?_)))))))
  refine wpAny_bind (HT.slicePart_ ps ?_)
  show wpAny _ _ (if (k == 0) = true then _ else _) _ _ s
  rw [if_neg (by simpa using hk)]
  refine wpAny_bind (HT.slicePart_ pl (wpAny_bind (HT.slicePart_ pu (wpAny_bind (wpAny_pure ?_)))))
  show wpAny _ _ (match Builtin.Slice.sliceAdjust lo hi k (n : Int) with | (lo, hi) => pure (lo, k, Builtin.Slice.slicePlaces lo hi k)) _ _ s
  exact wpAny_pure h
theorem getItem_tuple_step {t sl : Addr} {items : Array Value} {vl vu vs : Value} {lo hi : Option Int} {k : Int} {Q : Value → Shared → Prop} (ht : IsTup s.heap t items) (hs : s.heap.IsSliceOf sl vl vu vs) (pl : IsPart vl lo) (pu : IsPart vu hi) (ps : IsPart vs (some k)) (hk : k ≠ 0)
    (h0 : wholeA lo hi k items.size = true → Q (.ref t) s)
    (h : wholeA lo hi k items.size = false → Q (.ref s.heap.objs.size) { s with heap := s.heap.push { cls := .type "tuple", data := .seq (pickA items.toList lo hi k).toArray } })
    (hsz : (stepAt lo hi k items.size).2 ≤ sizeLine) : wpAny (model prog w) A (getItem (.ref t) (.ref sl)) Q E s := by
  obtain ⟨os, hos, hcs, hds⟩ := id hs
  have hTs : s.TypeIs (.ref sl) "slice" := ⟨os, hos, hcs⟩
  unfold getItem
  try with_reducible refine wpAny_holding ?_
  first | refine wpAny_bind (wpAny_pure ?_) | skip
  refine wpAny_bind (wpAny_sequenceKey ht.typeIs (by decide) ?_)
  refine wpAny_bind (wpAny_callSpecial?_slot (name := Str.ofString "__getitem__") ht.typeIs PyProof.Rows.slot_tuple_getitem
    (wpAny_call_entry PyProof.Rows.slot_tuple_getitem ht.typeIs entry_tuple_getitem ?_ (args_tuple_getitem _ _)))
  show wpAny _ _ (Builtin.Tuple.tupleItemsOf (.ref t) >>= _) _ _ s
  refine wpAny_bind (tupleItemsOf_ ht ?_)
  refine wpAny_bind (wpAny_typeOf hTs ?_)
  rw [if_pos (by decide)]
  refine wpAny_bind (sliceApplied_step hs pl pu ps hk ?_)
  show wpAny _ _ (if ((stepAt lo hi k items.size).1 == 0 && k == 1 && (stepAt lo hi k items.size).2 == items.size) = true then _ else _) _ _ s
  cases hw : wholeA lo hi k items.size with
  | true =>
    have hyes : ((stepAt lo hi k items.size).1 == 0 && k == 1 && (stepAt lo hi k items.size).2 == items.size) = true := hw
    rw [if_pos hyes]
    refine wpAny_bind ?_
    show wpAny _ _ (typeOf (.ref t) >>= fun T => pure (T == .type "tuple")) _ _ s
    refine wpAny_bind (wpAny_typeOf ht.typeIs (wpAny_pure ?_))
    first
      | rw [if_pos (by decide)]
      | simp only [beq_self_eq_true, if_true]
    first
      | exact wpAny_bind (wpAny_rule (wpAny_pure ⟨_, rfl, wpAny_pure (h0 hw)⟩))
      | exact wpAny_bind (wpAny_rule (wpAny_bind (wpAny_pure (wpAny_pure ⟨_, rfl, wpAny_pure (h0 hw)⟩))))
  | false =>
    have hno : ¬ ((stepAt lo hi k items.size).1 == 0 && k == 1 && (stepAt lo hi k items.size).2 == items.size) = true := by
      have : ((stepAt lo hi k items.size).1 == 0 && k == 1 && (stepAt lo hi k items.size).2 == items.size) = false := hw
      rw [this]
      exact Bool.false_ne_true
    rw [if_neg hno]
    have e : (List.filterMap (fun (m : Nat) => items[((stepAt lo hi k items.size).1 + (m : Int) * k).toNat]?) (List.range (stepAt lo hi k items.size).2)) = pickA items.toList lo hi k := by
      unfold pickA
      rw [Array.length_toList]
      simp only [Array.getElem?_toList]
    rw [e]
    have htake : sizeOk (.seq (pickA items.toList lo hi k).toArray) := by
      show (pickA items.toList lo hi k).toArray.size ≤ sizeLine
      rw [List.size_toArray]
      exact Nat.le_trans pickA_length (by rw [Array.length_toList]; exact hsz)
    first
      | exact wpAny_bind (m := Builtin.Tuple.tupleExact _) (wpAny_newObj_type (wpAny_pure ⟨_, rfl, wpAny_pure (h hw)⟩) htake)
      | exact wpAny_bind (m := Builtin.Tuple.tupleExact _) (wpAny_newObj_type (wpAny_bind (wpAny_pure (wpAny_pure ⟨_, rfl, wpAny_pure (h hw)⟩))) htake)
      | exact wpAny_bind (wpAny_bind (m := Builtin.Tuple.tupleExact _) (wpAny_newObj_type (wpAny_pure (wpAny_pure ⟨_, rfl, wpAny_pure (h hw)⟩)) htake))
      | exact wpAny_bind (wpAny_bind (m := Builtin.Tuple.tupleExact _) (wpAny_newObj_type (wpAny_pure ⟨_, rfl, wpAny_pure (h hw)⟩) htake))
end
section
variable {X : Cx} {W : WX} {e : Expr} {ma : M D} {pos : Pos} {lo hi : Option Expr} {st : Expr} {ml mh mk : M (Option Int)} {p2 : Pos}
def tStep (K : PySem.W.Frag) (te : TE) (tl th tk : TO) : TE := fun σ H Q => te σ H fun x H1 => tl σ H1 fun l H2 => th σ H2 fun u H3 => tk σ H3 fun o H4 => ∃ k a xs, o = some k ∧ k ≠ 0 ∧ x = .ref a ∧ SqT K H4 a xs ∧ (stepAt l u k xs.length).2 ≤ sizeLine ∧
  (wholeA l u k xs.length = true → Q (.ref a) H4) ∧ (wholeA l u k xs.length = false → ∀ p, H4 p = none → Q (.ref p) (upd H4 p (.tup (pickA xs l u k))))
theorem pe_step {te : TE} {tl th tk : TO} (he : PE X e te) (hl : PO X lo tl) (hh : PO X hi th) (hk : PO X (some st) tk) : PE X (.Subscript e (.Slice lo hi (some st) p2) pos) (tStep X.K te tl th tk) := by
  refine ⟨fun pins s σ H Q I h => ?_⟩
  refine Subscript_ (thn (he.run pins s σ H _ I h) fun v s1 ⟨x, H1, I1, r1, q1⟩ => ?_)
  refine wpAny_Slice (thn (hl.run pins s1 σ H1 _ I1 q1) fun vl s2 ⟨l, H2, I2, pl, q2⟩ => thn (hh.run pins s2 σ H2 _ I2 q2) fun vu s3 ⟨u, H3, I3, pu, q3⟩ => thn (hk.run pins s3 σ H3 _ I3 q3) fun vs s4 ⟨o, H4, I4, ps, q4⟩ => ?_)
  obtain ⟨k, a, xs, rfl, k0, ex, hx, hz, q5, q6⟩ := q4
  subst ex
  cases r1
  have I5 : Inv X pins σ H4 { s4 with heap := s4.heap.push { cls := .type "slice", data := .fields #[vl, vu, vs] } } := I4.kept (t' := s4.toks) fun b ob q => Heap.get?_push_of_some _ q
  obtain ⟨its, r, ht, _⟩ := I5.tuple hx
  have hlen : its.toArray.size = xs.length := by rw [List.size_toArray]; exact r.length.symm
  show wpAny (model X.prog X.w) X.A (subscriptTail e (.Slice lo hi (some st) p2) (.ref a) (.ref s4.heap.objs.size)) (EP X pins σ Q) X.xe { s4 with heap := s4.heap.push { cls := .type "slice", data := .fields #[vl, vu, vs] } }
  refine tail_any (ops := [.ref a, .ref s4.heap.objs.size]) ht.typeIs (PyProof.Rows.slot_tuple_getitem.lookup) ?_ (by with_unfolding_all rfl)
  refine getItem_tuple_step ht (Heap.IsSliceOf.new _ vl vu vs) pl pu ps k0 (fun z => ?_) (fun z => ?_) (by rw [hlen]; exact hz)
  · rw [hlen] at z
    exact ⟨.ref a, H4, I5, rfl, q5 z⟩
  · rw [hlen] at z
    have rv : Vals (pickA xs l u k) (pickA its l u k) := by
      unfold pickA
      rw [← r.length]
      exact vals_pickL r (fun m => ((stepAt l u k xs.length).1 + (m : Int) * k).toNat) _
    refine ⟨.ref _, _, I5.laid (t' := s4.toks) (o := .tup (pickA xs l u k)) (fun b ob q => Heap.get?_push_of_some _ q) (Nat.le_refl _) ?_, rfl, q6 z _ (I5.hok.fresh (Nat.le_refl _))⟩
    exact ⟨Nat.le_trans pickA_length hz, _, rv, IsTup.new _ _⟩
def mStep (ma : M D) (ml mh mk : M (Option Int)) : M D := fun S => (ma S).bind fun a S1 => (ml S1).bind fun l S2 => (mh S2).bind fun u S3 => (mk S3).bind fun o S4 => match a, o with
  | .tup ds, some k => if k ≠ 0 ∧ (stepAt l u k ds.length).2 ≤ cap then .ok (.tup (if wholeA l u k ds.length = true then ds else pickA ds l u k)) S4 else .bad
  | _, _ => .bad
theorem ge_step (ha : GE X W e ma) (hl : GO X W lo ml) (hh : GO X W hi mh) (hk : GO X W (some st) mk) : GE X W (.Subscript e (.Slice lo hi (some st) p2) pos) (mStep ma ml mh mk) := by
  obtain ⟨ta, pa, qa⟩ := ha
  obtain ⟨tl, pl, ql⟩ := hl
  obtain ⟨th, ph, qh⟩ := hh
  obtain ⟨tk, pk, qk⟩ := hk
  refine ⟨_, pe_step pa pl ph pk, fun B G H σ S Q R h => ?_⟩
  refine qa B G H σ S _ R ?_
  unfold mStep at h
  cases hm : ma S with
  | bad => rw [hm] at h; exact h
  | err c pl S' => rw [hm] at h; exact h
  | ok d S' =>
    rw [hm, Rs.bind_ok] at h
    intro v G1 H1 e1 R1 d1
    refine ql B G1 H1 σ S' _ R1 ?_
    cases hn : ml S' with
    | bad => rw [hn] at h; exact h
    | err c pl S2 => rw [hn] at h; exact fun cls dd G' H' e => h cls dd G' H' (e1.trans e)
    | ok l S2 =>
      rw [hn, Rs.bind_ok] at h
      intro G2 H2 e2 R2
      refine qh B G2 H2 σ S2 _ R2 ?_
      cases hq : mh S2 with
      | bad => rw [hq] at h; exact h
      | err c pl S3 => rw [hq] at h; exact fun cls dd G' H' e => h cls dd G' H' ((e1.trans e2).trans e)
      | ok u S3 =>
        rw [hq, Rs.bind_ok] at h
        intro G3 H3 e3 R3
        refine qk B G3 H3 σ S3 _ R3 ?_
        cases hr : mk S3 with
        | bad => rw [hr] at h; exact h
        | err c pl S4 => rw [hr] at h; exact fun cls dd G' H' e => h cls dd G' H' (((e1.trans e2).trans e3).trans e)
        | ok o S4 =>
          rw [hr, Rs.bind_ok] at h
          intro G4 H4 e4 R4
          split at h
          · rename_i ds k
            split at h
            · rename_i hz
              cases d1 with
              | tup h1 hs1 =>
                rename_i aa xs
                have ex := (e2.trans e3).trans e4
                have ht := ex_t ex h1
                have hs := hs1.mono ex
                have ln := hs.length
                refine ⟨k, _, _, rfl, hz.1, rfl, ex_t R4.gh ht, by rw [ln]; exact cap_le hz.2, fun z => ?_, fun z p hp => ?_⟩
                · rw [ln] at z
                  rw [if_pos z] at h
                  exact h _ G4 H4 (e1.trans ex) R4 (.tup ht hs)
                · rw [ln] at z
                  rw [if_neg (by rw [z]; exact Bool.false_ne_true)] at h
                  have al : Alc G4 H4 _ _ := .inr ⟨p, .tup (pickA xs l u k), hp, rfl, rfl⟩
                  exact h _ _ _ ((e1.trans ex).trans (al.ex R4.gh)) (R4.alc al) (.tup (SqT.of upd_same) ((hs.pickA l u k).mono (al.ex R4.gh)))
            · exact h.elim
          · exact h.elim
end
/-- the whole, turned round -/
theorem stepAt_rev (n : Nat) : stepAt none none (-1) n = ((n : Int) - 1, n) := by
  unfold stepAt Builtin.Slice.sliceAdjust Builtin.Slice.slicePlaces
  simp only [show ((-1 : Int) < 0) from by omega, if_true, show ¬ ((-1 : Int) > 0) from by omega, if_false]
  refine Prod.ext rfl ?_
  show ((if (n : Int) - 1 > -1 then ((n : Int) - 1 - -1 - 1) / (- -1) + 1 else 0 : Int)).toNat = n
  split
  · rw [show (- -1 : Int) = 1 from rfl, Int.ediv_one]; omega
  · omega
theorem filterMap_congr' {α β : Type} {f g : α → Option β} : ∀ {l : List α}, (∀ m ∈ l, f m = g m) → l.filterMap f = l.filterMap g
  | [], _ => rfl
  | a :: l, h => by
    rw [List.filterMap_cons, List.filterMap_cons, h a List.mem_cons_self, filterMap_congr' fun m hm => h m (List.mem_cons_of_mem _ hm)]
theorem filterMap_down {α : Type} : ∀ (n : Nat) (xs : List α), xs.length = n → ((List.range n).filterMap fun (m : Nat) => xs[(((n : Int) - 1) + (m : Int) * (-1)).toNat]?) = xs.reverse := by
  intro n xs h
  have e : ∀ m ∈ List.range n, xs[(((n : Int) - 1) + (m : Int) * (-1)).toNat]? = xs.reverse[m]? := fun m hm => by
    have hm' : m < n := List.mem_range.mp hm
    rw [List.getElem?_reverse (by omega), h]
    congr 1
    omega
  rw [filterMap_congr' e]
  subst h
  have : ∀ ys : List α, (List.range ys.length).filterMap (fun m => ys[m]?) = ys := fun ys => by
    induction ys with
    | nil => rfl
    | cons y ys ih =>
      rw [List.length_cons, List.range_succ_eq_map, List.filterMap_cons_some (f := fun m => (y :: ys)[m]?) (a := 0) (b := y) rfl, List.filterMap_map]
      exact congrArg (y :: ·) ih
  have r := this xs.reverse
  rw [List.length_reverse] at r
  exact r
theorem pickA_rev {α : Type} (xs : List α) : pickA xs none none (-1) = xs.reverse := by
  unfold pickA
  rw [stepAt_rev]
  exact filterMap_down xs.length xs rfl
theorem wholeA_rev (n : Nat) : wholeA none none (-1) n = false := by
  unfold wholeA
  rw [show ((-1 : Int) == 1) = false from rfl, Bool.and_false, Bool.false_and]
end Q4


set_option Elab.async false
set_option linter.all false
set_option maxRecDepth 100000
set_option maxHeartbeats 4000000
/-! Part G: is, enumerate, zip, reversed. -/
namespace Q4
open PySem PySem.Spec PyProof.Rows L2 Evl

/-! ### is, is not -/
def D.isNon : D → Bool
  | .non => true | _ => false
def dIsN : D → D → Option D
  | d, .non => some (.bl d.isNon)
  | _, _ => none
def dNotN : D → D → Option D
  | d, .non => some (.bl (!d.isNon))
  | _, _ => none
def dIsB : D → D → Option D
  | .bl a, .bl b => some (.bl (decide (a = b)))
  | _, _ => none
def dNotB : D → D → Option D
  | .bl a, .bl b => some (.bl (!decide (a = b)))
  | _, _ => none
theorem DP.isNon {K : PySem.W.Frag} {H : Hp} {v : V} {d : D} (h : DP K H v d) : decide (v = .non) = d.isNon := by
  cases h <;> simp [D.isNon]
section
variable {K : PySem.W.Frag}
theorem od_isN : OpD K (fun x y H Q => y = .non ∧ Q (.bl (decide (x = .non))) H) dIsN := by
  intro x y a b d G H Q e dx dy gh k
  unfold dIsN at e
  split at e
  · cases e
    cases dy
    exact ⟨rfl, by rw [dx.isNon]; exact k _ G H .refl (.bl _)⟩
  · cases e
theorem od_notN : OpD K (fun x y H Q => y = .non ∧ Q (.bl (!decide (x = .non))) H) dNotN := by
  intro x y a b d G H Q e dx dy gh k
  unfold dNotN at e
  split at e
  · cases e
    cases dy
    exact ⟨rfl, by rw [dx.isNon]; exact k _ G H .refl (.bl _)⟩
  · cases e
theorem od_isB : OpD K rIsB dIsB := by
  intro x y a b d G H Q e dx dy gh k
  unfold dIsB at e
  split at e
  · cases e
    cases dx
    cases dy
    exact ⟨_, _, rfl, rfl, k _ G H .refl (.bl _)⟩
  · cases e
theorem od_notB : OpD K rNotB dNotB := by
  intro x y a b d G H Q e dx dy gh k
  unfold dNotB at e
  split at e
  · cases e
    cases dx
    cases dy
    exact ⟨_, _, rfl, rfl, k _ G H .refl (.bl _)⟩
  · cases e
def dIs (a b : D) : Option D := (dIsN a b).or (dIsB a b)
def dIsnt (a b : D) : Option D := (dNotN a b).or (dNotB a b)
def rIsX : R2 := fun x y H Q => (fun x y H Q => y = .non ∧ Q (.bl (decide (x = .non))) H) x y H Q ∨ rIsB x y H Q
def rIsntX : R2 := fun x y H Q => (fun x y H Q => y = .non ∧ Q (.bl (!decide (x = .non))) H) x y H Q ∨ rNotB x y H Q
theorem op_isX {X : Cx} : OpR X (compareOp .Is) rIsX := OpR.or (r := fun x y H Q => y = .non ∧ Q (.bl (decide (x = .non))) H) (r' := rIsB) op_isN op_isBl
theorem op_isntX {X : Cx} : OpR X (compareOp .IsNot) rIsntX := OpR.or (r := fun x y H Q => y = .non ∧ Q (.bl (!decide (x = .non))) H) (r' := rNotB) op_notN op_notBl
theorem od_is : OpD K rIsX dIs := OpD.or (r := fun x y H Q => y = .non ∧ Q (.bl (decide (x = .non))) H) (r' := rIsB) od_isN od_isB
theorem od_isnt : OpD K rIsntX dIsnt := OpD.or (r := fun x y H Q => y = .non ∧ Q (.bl (!decide (x = .non))) H) (r' := rNotB) od_notN od_notB
end

/-! ### reversed -/
section
variable {X : Cx} {W : WX} {tg a b : Expr} {ma : M D} {ms : M (List D)} {p pos tpos : Pos}
def mRev (ms : M D) : M (List D) := fun S => (ms S).bind fun d S1 => match d with
  | .lst ds => .ok ds.reverse S1
  | .tup ds => .ok ds.reverse S1
  | _ => .bad
theorem rev_at {α : Type} {xs : List α} {i : Nat} (h : i < xs.length) : xs[xs.length - 1 - i]? = xs.reverse[i]? := by
  rw [List.getElem?_reverse h]
theorem yld_revT {K : PySem.W.Frag} {a : Addr} {xs : List V} {ds : List D} {G : Hp} (h : SqT K G a xs) (hs : DPs K G xs ds) : Yld K (RT.ItvT K a xs.length) ds.reverse G := by
  intro i G1 H e1 e2
  have h' := ex_t (e1.trans e2) h
  refine ⟨fun hi => by rw [List.length_reverse, ← hs.length] at hi; exact hi, fun d hd => ?_⟩
  have hl : i < xs.length := by
    have := (List.getElem?_eq_some_iff.mp hd).1
    rw [List.length_reverse, ← hs.length] at this
    exact this
  obtain ⟨v, hv, dv⟩ := hs.reverse.get hd
  rw [← rev_at hl] at hv
  refine ⟨⟨hl, xs, v, h', hv⟩, fun x H' y => ?_⟩
  obtain ⟨e, hx⟩ := y
  subst e
  rw [hx xs h'] at hv
  cases hv
  exact ⟨G1, .refl, dv.mono e1⟩
theorem yld_revL {K : PySem.W.Frag} {a : Addr} {xs : List V} {ds : List D} {G : Hp} (h : SqL K G a xs) (hs : DPs K G xs ds) : Yld K (Itv K a xs.length) ds.reverse G := by
  intro i G1 H e1 e2
  have h' := ex_l (e1.trans e2) h
  refine ⟨fun hi => by rw [List.length_reverse, ← hs.length] at hi; exact hi, fun d hd => ?_⟩
  have hl : i < xs.length := by
    have := (List.getElem?_eq_some_iff.mp hd).1
    rw [List.length_reverse, ← hs.length] at this
    exact this
  obtain ⟨v, hv, dv⟩ := hs.reverse.get hd
  rw [← rev_at hl] at hv
  refine ⟨⟨hl, xs, v, h', hv⟩, fun x H' y => ?_⟩
  obtain ⟨e, hx⟩ := y
  subst e
  rw [hx xs h'] at hv
  cases hv
  exact ⟨G1, .refl, dv.mono e1⟩
theorem gi_rev (hm : X.mg "reversed" = none) (ha : GE X W a ma) (hg : Gl X "reversed" := by rfl) (hs : starEach [a] X.env = (false, eval a X.env) :: starEach [] X.env := by rfl) : GI X W tg (.Call (.Name "reversed" p) [a] [] pos) (mRev ma) := by
  obtain ⟨ta, pa, qa⟩ := ha
  refine ⟨_, RT.pi_revA hg hm pa hs, fun B G H σ S Q R h => ?_⟩
  refine qa B G H σ S _ R ?_
  unfold mRev at h
  cases hms : ma S with
  | bad => rw [hms] at h; exact h
  | err c pl S' => rw [hms] at h; exact h
  | ok d S' =>
    rw [hms, Rs.bind_ok] at h
    intro v G1 H1 e1 R1 d1
    cases d1 with
    | lst h1 hs1 => exact ⟨_, _, rfl, .inl ⟨SqL.of (R1.gh _ _ h1), h _ G1 H1 e1 R1 (yld_revL (SqL.of h1) hs1)⟩⟩
    | tup h1 hs1 => exact ⟨_, _, rfl, .inr ⟨ex_t R1.gh h1, h _ G1 H1 e1 R1 (yld_revT h1 hs1)⟩⟩
    | _ => exact h.elim

/-! ### zip -/
def zipD (xs ys : List D) : List D := List.zipWith (fun x y => D.tup [x, y]) xs ys
def mZip (ms : M (List D)) : M (List D) := fun S => (ms S).bind fun ds S1 => match ds with
  | [.lst xs, .lst ys] => .ok (zipD xs ys) S1
  | [.tup xs, .tup ys] => .ok (zipD xs ys) S1
  | _ => .bad
theorem zipD_get {xs ys : List D} {i : Nat} {d : D} (h : (zipD xs ys)[i]? = some d) : ∃ x y, xs[i]? = some x ∧ ys[i]? = some y ∧ d = .tup [x, y] := by
  unfold zipD at h
  rw [List.getElem?_zipWith] at h
  cases h1 : xs[i]? with
  | none => rw [h1] at h; cases h
  | some x =>
    cases h2 : ys[i]? with
    | none => rw [h1, h2] at h; cases h
    | some y =>
      rw [h1, h2] at h
      exact ⟨x, y, rfl, rfl, (Option.some.inj h).symm⟩
theorem pair_out {K : PySem.W.Frag} {G1 H : Hp} {T : Addr} {x y : V} {d e : D} (gh : Ex G1 H) (hT : H T = none) (dx : DP K G1 x d) (dy : DP K G1 y e) : ∃ G2, Alc G1 H G2 (upd H T (.tup [x, y])) ∧ DP K G2 (.ref T) (.tup [d, e]) := by
  have al : Alc G1 H (upd G1 T (.tup [x, y])) (upd H T (.tup [x, y])) := .inr ⟨T, _, hT, rfl, rfl⟩
  exact ⟨_, al, .tup (SqT.of upd_same) (.cons (dx.mono (al.ex gh)) (.cons (dy.mono (al.ex gh)) .nil))⟩
theorem yld_zipL {K : PySem.W.Frag} {a b : Addr} {xs ys : List V} {ds es : List D} {G : Hp} (h : SqL K G a xs) (h2 : SqL K G b ys) (hs : DPs K G xs ds) (hs2 : DPs K G ys es) : Yld K (Itz K a b) (zipD ds es) G := by
  intro i G1 H e1 e2
  have h' := ex_l (e1.trans e2) h
  have h2' := ex_l (e1.trans e2) h2
  refine ⟨fun hi => ⟨xs, ys, h', h2', ?_⟩, fun d hd => ?_⟩
  · unfold zipD at hi
    rw [List.length_zipWith] at hi
    rw [hs.length, hs2.length]
    omega
  obtain ⟨x, y, hx, hy, rfl⟩ := zipD_get hd
  obtain ⟨v, hv, dv⟩ := hs.get hx
  obtain ⟨u, hu, du⟩ := hs2.get hy
  refine ⟨⟨xs, ys, v, u, h', h2', hv, hu⟩, fun z H' q => ?_⟩
  obtain ⟨T, x', y', rfl, hT, rfl, q1, q2⟩ := q
  have z1 := q1 xs h'
  rw [hv] at z1
  cases z1
  have z2 := q2 ys h2'
  rw [hu] at z2
  cases z2
  exact pair_out e2 hT (dv.mono e1) (du.mono e1)
theorem yld_zipT {K : PySem.W.Frag} {a b : Addr} {xs ys : List V} {ds es : List D} {G : Hp} (h : SqT K G a xs) (h2 : SqT K G b ys) (hs : DPs K G xs ds) (hs2 : DPs K G ys es) : Yld K (RZ.ItzT K a b) (zipD ds es) G := by
  intro i G1 H e1 e2
  have h' := ex_t (e1.trans e2) h
  have h2' := ex_t (e1.trans e2) h2
  refine ⟨fun hi => ⟨xs, ys, h', h2', ?_⟩, fun d hd => ?_⟩
  · unfold zipD at hi
    rw [List.length_zipWith] at hi
    rw [hs.length, hs2.length]
    omega
  obtain ⟨x, y, hx, hy, rfl⟩ := zipD_get hd
  obtain ⟨v, hv, dv⟩ := hs.get hx
  obtain ⟨u, hu, du⟩ := hs2.get hy
  refine ⟨⟨xs, ys, v, u, h', h2', hv, hu⟩, fun z H' q => ?_⟩
  obtain ⟨T, x', y', rfl, hT, rfl, q1, q2⟩ := q
  have z1 := q1 xs h'
  rw [hv] at z1
  cases z1
  have z2 := q2 ys h2'
  rw [hu] at z2
  cases z2
  exact pair_out e2 hT (dv.mono e1) (du.mono e1)
theorem gi_zip {elts : List Expr} {kk : Nat} (hm : X.mg "zip" = none) (ha : GA X W [a, b] ms) (hg : Gl X "zip" := by rfl) (hs : starEach [a, b] X.env = (false, eval a X.env) :: starEach [b] X.env := by rfl) (hpl : (backTo pos (starEach [b] X.env)).any (·.1) = false := by rfl) :
    GI X W (.Tuple elts kk tpos) (.Call (.Name "zip" p) [a, b] [] pos) (mZip ms) := by
  obtain ⟨ta, pa, qa⟩ := ha
  refine ⟨_, RZ.pi_zipA hg hm pa hs hpl, fun B G H σ S Q R h => ?_⟩
  refine qa B G H σ S _ R ?_
  unfold mZip at h
  cases hms : ms S with
  | bad => rw [hms] at h; exact h
  | err c pl S' => rw [hms] at h; exact h
  | ok ds S' =>
    rw [hms, Rs.bind_ok] at h
    intro vs G1 H1 e1 R1 dv
    split at h
    · cases dv with
      | cons d1 r1 =>
        cases r1 with
        | cons d2 r2 =>
          cases r2
          cases d1 with
          | lst h1 hs1 =>
            cases d2 with
            | lst h2 hs2 => exact ⟨_, _, _, _, rfl, .inl ⟨SqL.of (R1.gh _ _ h1), SqL.of (R1.gh _ _ h2), h _ G1 H1 e1 R1 (yld_zipL (SqL.of h1) (SqL.of h2) hs1 hs2)⟩⟩
    · cases dv with
      | cons d1 r1 =>
        cases r1 with
        | cons d2 r2 =>
          cases r2
          cases d1 with
          | tup h1 hs1 =>
            cases d2 with
            | tup h2 hs2 => exact ⟨_, _, _, _, rfl, .inr ⟨ex_t R1.gh h1, ex_t R1.gh h2, h _ G1 H1 e1 R1 (yld_zipT h1 h2 hs1 hs2)⟩⟩
    · exact h.elim

/-! ### enumerate -/
def enumD : Nat → List D → List D
  | _, [] => []
  | i, d :: ds => .tup [.int i, d] :: enumD (i + 1) ds
theorem enumD_length : ∀ (i : Nat) (ds : List D), (enumD i ds).length = ds.length
  | _, [] => rfl
  | i, d :: ds => congrArg Nat.succ (enumD_length (i + 1) ds)
theorem enumD_get : ∀ (i j : Nat) (ds : List D), (enumD i ds)[j]? = (ds[j]?).map fun d => .tup [.int ((i + j : Nat) : Int), d]
  | _, _, [] => rfl
  | i, 0, d :: ds => rfl
  | i, j + 1, d :: ds => by
    show (enumD (i + 1) ds)[j]? = _
    rw [enumD_get (i + 1) j ds, show i + 1 + j = i + (j + 1) by omega]
    rfl
theorem turn_enumT {P : Program} {w : World} {K : PySem.W.Frag} {elts : List Expr} {kk : Nat} {tpos : Pos} (a e it : Addr) (xs : List V) (hae : a ≠ e) (hai : a ≠ it) :
    Turn P w K (.Tuple elts kk tpos) (⟨fun i H => SqT K H a xs ∧ i < xs.length, fun i H v H' => ∃ T x, v = .ref T ∧ H T = none ∧ H' = upd H T (.tup [.int (i : Nat), x]) ∧ xs[i]? = some x, fun i H => SqT K H a xs ∧ xs.length ≤ i⟩ : It) [e, it] e
      (fun i h => i ≤ xs.length ∧ (∃ old, IsEnum h e it ((i : Nat) : Int) old) ∧ h.IsTupleIter it a i ∧ e ≠ it) where
  mem := by simp
  obj := fun i h st b hb => by
    obtain ⟨_, ⟨old, he⟩, ⟨o, ho, hc, hd⟩, _⟩ := st
    have e' : b = e ∨ b = it := by simpa using hb
    rcases e' with z | z
    · rw [z]; exact ⟨_, he, fun v q => nomatch q⟩
    · rw [z]; exact ⟨o, ho, fun v q => by rw [hd] at q; cases q⟩
  keep := fun i h h' st k => let ⟨hl, ⟨old, he⟩, hi, hne⟩ := st; ⟨hl, ⟨old, k e (by simp) _ he⟩, hi.at fun o q => k it (by simp) o q, hne⟩
  item := by
    intro X hP hw hK hc i pins s σ H E I hf st hg
    subst hP hw hK
    obtain ⟨hl, ⟨old, he⟩, hit, hne⟩ := st
    obtain ⟨hq, hi⟩ := hg
    obtain ⟨its, rv, p, hz⟩ := I.tuple hq
    have hx : xs[i]? = some xs[i] := List.getElem?_eq_getElem hi
    obtain ⟨u, hu, ru⟩ := rv.get hx
    have hel : e < s.heap.objs.size := Heap.lt_size he
    have hil : it < s.heap.objs.size := by obtain ⟨_, q, _⟩ := hit; exact Heap.lt_size q
    have hsz : its.toArray.size = xs.length := by rw [List.size_toArray, ← rv.length]
    have hd : X.A.in1.handled = none := I.ok.hd hc
    refine wpAny_pyNext_enum_itemD (Draws.tuple (prog := X.prog) (w := X.w) (A := X.A.in1) hd it a hai its.toArray) he ⟨hit, p⟩ (by rw [hsz]; exact hi) hne (by simp [hne, Ne.symm hae]) fun x h' tk hx' ho st' hT hsz' hk => ?_
    have hux : x = u := by
      have : its.toArray[i]? = some u := by simpa using hu
      rw [this] at hx'
      exact (Option.some.inj hx').symm
    subst hux
    refine ⟨_, rfl, wpAny_letOwnedTupleGo_enum (s := { s with heap := h', toks := tk + 1 }) ho fun h'' he' sb => ?_⟩
    have hT2 : h''.get? s.heap.objs.size = some { cls := .type "tuple", data := .seq #[.int i tk, x] } := (sb.2 _ (Nat.ne_of_gt hel)).trans hT
    have new : ObjOk X.prog X.w (upd H s.heap.objs.size (.tup [.int (i : Nat), xs[i]])) h'' s.heap.objs.size (.tup [.int (i : Nat), xs[i]]) :=
      ⟨by show 2 ≤ sizeLine; decide, [.int i tk, x], .cons ⟨_, rfl⟩ (.cons ru .nil), ⟨_, hT2, rfl, _, rfl⟩⟩
    have I1 : Inv X pins σ (upd H s.heap.objs.size (.tup [.int (i : Nat), xs[i]])) { s with heap := h'', toks := tk + 1 } :=
      I.turnedNew (ch := [e, it]) (fun b ob hb q => (sb.2 b (fun z => hb (by simp [z]))).trans (hk b ob (fun z => hb (by simp [z])) (fun z => hb (by simp [z])) q)) hf (Nat.le_refl _) new
    refine ⟨.ref s.heap.objs.size, _, I1, rfl, ⟨_, xs[i], rfl, I.hok.fresh (Nat.le_refl _), rfl, hx⟩, ⟨hi, ⟨x, ?_⟩, st'.1.at fun o q => (sb.2 it (Ne.symm hne)).trans q, hne⟩, fun b hb => ?_⟩
    · have e1 : ((i + 1 : Nat) : Int) = (i : Int) + 1 := by omega
      rw [e1]; exact he'
    · have hb' : b < s.heap.objs.size := by
        have e' : b = e ∨ b = it := by simpa using hb
        rcases e' with z | z
        · rw [z]; exact hel
        · rw [z]; exact hil
      rw [upd_ne (Nat.ne_of_lt hb')]
      exact (hf b hb).1
  done := by
    intro X hP hw hK hc i pins s σ H E I hf st hg
    subst hP hw hK
    obtain ⟨hl, ⟨old, he⟩, hit, hne⟩ := st
    obtain ⟨hq, hx⟩ := hg
    obtain ⟨its, rv, p, hz⟩ := I.tuple hq
    obtain ⟨f0, f1, f2, f3, f4, f5⟩ := hf it (by simp)
    have hd : X.A.in1.handled = none := I.ok.hd hc
    have hsz : i = its.toArray.size := by rw [List.size_toArray, ← rv.length]; omega
    subst hsz
    exact wpAny_pyNext_enum_endD (Draws.tuple (prog := X.prog) (w := X.w) (A := X.A.in1) hd it a hai its.toArray) he ⟨hit, p⟩ fun h' eb => ⟨rfl, I.turned (t' := s.toks) (fun b o hb q => eb b o hb q) f0 f1 f3 f4 f5⟩
  self := fun A i s Q E st h => let ⟨_, ⟨_, he⟩, _⟩ := st; wpAny_pyIter_enum he h
end
theorem meets_enumerate_newB1 {v : Value} {o : Obj} {H : Heap → Prop} (B : Begins v o H) :
    Meets (Builtin.«enumerate.__new__» ⟨[.type "enumerate", v], []⟩) (fun _ R s => H s.heap ∧
      R (.ok (.ret (.ref (s.heap.push o).objs.size))) { s with heap := (s.heap.push o).push { cls := .type "enumerate", data := .fields #[.none, .bool false, .ref s.heap.objs.size, rawInt 0, .none, .none] } }) :=
  .of_wp fun prog w A R s h => by
    obtain ⟨hp, g, d, tk, os⟩ := s; obtain ⟨h1, h⟩ := h
    have hsub := sub_enumerate
    have q1 : ∀ {A' : Around} {E : Value → Shared → Prop} {Q : Value → Shared → Prop}, Q (.ref hp.objs.size) ⟨hp.push o, g, d, tk, os⟩ → wpAny (model prog w) A' (pyIter v) Q E ⟨hp, g, d, tk, os⟩ :=
      fun q => B.iter prog w _ _ ⟨hp, g, d, tk, os⟩ _ h1 q
    wp_walk using q1
    refine wpAny_stack_any fun st => wpAny_pure ?_
    split
    · rename_i c _ _ _ _ _
      cases (c == Value.type "enumerate")
      · wp_walk using q1
        exact ⟨_, rfl, h⟩
      · wp_walk using q1
        exact ⟨_, rfl, h⟩
    · wp_walk using q1
      exact ⟨_, rfl, h⟩
theorem call_enumerate_1 {prog : Program} {w : World} {A : Around} {E : Value → Shared → Prop} {s : Shared} {v : Value} {o : Obj} {H : Heap → Prop} {Q : Value → Shared → Prop} (B : Begins v o H) (h1 : H s.heap)
    (h : ∀ h', IsEnum h' (s.heap.objs.size + 1) s.heap.objs.size 0 .none → h'.get? s.heap.objs.size = some o → h'.objs.size = s.heap.objs.size + 2 →
      (∀ b o, s.heap.get? b = some o → h'.get? b = some o) → Q (.ref (s.heap.objs.size + 1)) { s with heap := h' }) :
    wpAny (model prog w) A (call (.type "enumerate") [v]) Q E s := by
  refine callType_new F.called_enumerate (by decide) (F.typeCall_enumerate_1 _) (F.newCall_enumerate_1 _) (fun obj => F.args_object_init_2 obj _) F.entry_enumerate_new
    (meets_enumerate_newB1 B) ⟨h1, ?_⟩
  have hz : (s.heap.push o).objs.size = s.heap.objs.size + 1 := Heap.size_push ..
  show _ ∧ _
  rw [hz]
  have he : IsEnum ((s.heap.push o).push { cls := .type "enumerate", data := .fields #[.none, .bool false, .ref s.heap.objs.size, rawInt 0, .none, .none] }) (s.heap.objs.size + 1) s.heap.objs.size 0 .none := by
    have := Heap.get?_push_size (s.heap.push o) (o := { cls := .type "enumerate", data := .fields #[.none, .bool false, .ref s.heap.objs.size, rawInt 0, .none, .none] }) rfl
    rw [hz] at this; exact this
  refine ⟨⟨_, he, rfl⟩, h _ he (Heap.get?_push_of_some _ (Heap.get?_push_size _ B.free)) (by rw [Heap.size_push, hz]) fun b o x => Heap.get?_push_of_some _ (Heap.get?_push_of_some _ x)⟩
section
variable {X : Cx} {W : WX} {tg a b : Expr} {ma : M D} {ms : M (List D)} {p pos tpos : Pos}
def IteT (K : PySem.W.Frag) (a : Addr) (xs : List V) : It := ⟨fun i H => SqT K H a xs ∧ i < xs.length, fun i H v H' => ∃ T x, v = .ref T ∧ H T = none ∧ H' = upd H T (.tup [.int (i : Nat), x]) ∧ xs[i]? = some x, fun i H => SqT K H a xs ∧ xs.length ≤ i⟩
def iEnumA (K : PySem.W.Frag) (te : TE) : TI := fun σ H R => te σ H fun v H1 => ∃ (a : Addr) (xs : List V), v = .ref a ∧ ((SqL K H1 a xs ∧ R (Ite K a) H1) ∨ (SqT K H1 a xs ∧ R (IteT K a xs) H1))
theorem pi_enumA {te : TE} {elts : List Expr} {kk : Nat} (hg : Gl X "enumerate") (hm : X.mg "enumerate" = none) (ha : PE X a te) (hs : starEach [a] X.env = (false, eval a X.env) :: starEach [] X.env := by rfl) :
    PI X (.Tuple elts kk tpos) (.Call (.Name "enumerate" p) [a] [] pos) (iEnumA X.K te) := by
  refine ⟨fun pins s σ H R I h => ?_⟩
  refine Call_ (ld_blt I hg hm boot_enumerate (PyProof.Rows.callWith_type1 (args_cons (thn (ha.run pins s σ H _ I h) fun u s1 ⟨v, H1, I1, r1, q1⟩ => args_nil ?_) hs) hs rfl))
  obtain ⟨l, xs, ex, q⟩ := q1
  subst ex
  cases r1
  have fresh2 : ∀ b ∈ [s1.heap.objs.size + 1, s1.heap.objs.size], FpOk X pins H1 b := fun b hb => by
    have e' : b = s1.heap.objs.size + 1 ∨ b = s1.heap.objs.size := by simpa using hb
    have hle : s1.heap.objs.size ≤ b := by
      rcases e' with z | z
      · rw [z]; exact Nat.le_add_right _ _
      · rw [z]; exact Nat.le_refl _
    exact I1.fpOk hle (I1.hok.fresh hle)
  rcases q with ⟨hq, q⟩ | ⟨hq, q⟩
  · obtain ⟨its, rv, p', hz⟩ := I1.list hq
    refine call_enumerate_list p'.isList fun h' he hit hsz hk => wpAny_pyIter_enum he ?_
    have I2 : Inv X pins σ H1 { s1 with heap := h' } := I1.kept (t' := s1.toks) hk
    exact ⟨s1.heap.objs.size + 1, [s1.heap.objs.size + 1, s1.heap.objs.size], _, _, H1, rfl, I2, turn_enum l (s1.heap.objs.size + 1) s1.heap.objs.size, ⟨⟨.none, he⟩, hit, Nat.succ_ne_self _⟩, fresh2, q⟩
  · obtain ⟨its, rv, p', hz⟩ := I1.tuple hq
    obtain ⟨o1, ho1, _⟩ := id p'
    have hlt := Heap.lt_size ho1
    refine call_enumerate_1 (begins_tuple l its.toArray) (show s1.heap.IsTuple l its.toArray from p') fun h' he hit hsz hk => wpAny_pyIter_enum he ?_
    have I2 : Inv X pins σ H1 { s1 with heap := h' } := I1.kept (t' := s1.toks) hk
    exact ⟨s1.heap.objs.size + 1, [s1.heap.objs.size + 1, s1.heap.objs.size], _, _, H1, rfl, I2, turn_enumT l (s1.heap.objs.size + 1) s1.heap.objs.size xs (Nat.ne_of_lt (Nat.lt_succ_of_lt hlt)) (Nat.ne_of_lt hlt), ⟨Nat.zero_le _, ⟨.none, he⟩, ⟨_, hit, rfl, rfl⟩, Nat.succ_ne_self _⟩, fresh2, q⟩
def mEnum (ms : M D) : M (List D) := fun S => (ms S).bind fun d S1 => match d with
  | .lst ds => .ok (enumD 0 ds) S1
  | .tup ds => .ok (enumD 0 ds) S1
  | _ => .bad
theorem yld_enumL {K : PySem.W.Frag} {a : Addr} {xs : List V} {ds : List D} {G : Hp} (h : SqL K G a xs) (hs : DPs K G xs ds) : Yld K (Ite K a) (enumD 0 ds) G := by
  intro i G1 H e1 e2
  have h' := ex_l (e1.trans e2) h
  refine ⟨fun hi => ⟨xs, h', by rw [enumD_length, ← hs.length] at hi; exact hi⟩, fun d hd => ?_⟩
  rw [enumD_get, Nat.zero_add] at hd
  obtain ⟨d', hd', rfl⟩ := Option.map_eq_some_iff.mp hd
  obtain ⟨v, hv, dv⟩ := hs.get hd'
  refine ⟨⟨xs, v, h', hv⟩, fun z H' q => ?_⟩
  obtain ⟨T, x, rfl, hT, rfl, q1⟩ := q
  have z1 := q1 xs h'
  rw [hv] at z1
  cases z1
  exact pair_out e2 hT (.int _) (dv.mono e1)
theorem yld_enumT {K : PySem.W.Frag} {a : Addr} {xs : List V} {ds : List D} {G : Hp} (h : SqT K G a xs) (hs : DPs K G xs ds) : Yld K (IteT K a xs) (enumD 0 ds) G := by
  intro i G1 H e1 e2
  have h' := ex_t (e1.trans e2) h
  refine ⟨fun hi => ⟨h', by rw [enumD_length, ← hs.length] at hi; exact hi⟩, fun d hd => ?_⟩
  rw [enumD_get, Nat.zero_add] at hd
  obtain ⟨d', hd', rfl⟩ := Option.map_eq_some_iff.mp hd
  obtain ⟨v, hv, dv⟩ := hs.get hd'
  refine ⟨⟨h', (List.getElem?_eq_some_iff.mp hv).1⟩, fun z H' q => ?_⟩
  obtain ⟨T, x, rfl, hT, rfl, q1⟩ := q
  rw [hv] at q1
  cases q1
  exact pair_out e2 hT (.int _) (dv.mono e1)
theorem gi_enum {elts : List Expr} {kk : Nat} (hm : X.mg "enumerate" = none) (ha : GE X W a ma) (hg : Gl X "enumerate" := by rfl) (hs : starEach [a] X.env = (false, eval a X.env) :: starEach [] X.env := by rfl) :
    GI X W (.Tuple elts kk tpos) (.Call (.Name "enumerate" p) [a] [] pos) (mEnum ma) := by
  obtain ⟨ta, pa, qa⟩ := ha
  refine ⟨_, pi_enumA hg hm pa hs, fun B G H σ S Q R h => ?_⟩
  refine qa B G H σ S _ R ?_
  unfold mEnum at h
  cases hms : ma S with
  | bad => rw [hms] at h; exact h
  | err c pl S' => rw [hms] at h; exact h
  | ok d S' =>
    rw [hms, Rs.bind_ok] at h
    intro v G1 H1 e1 R1 d1
    cases d1 with
    | lst h1 hs1 => exact ⟨_, _, rfl, .inl ⟨SqL.of (R1.gh _ _ h1), h _ G1 H1 e1 R1 (yld_enumL (SqL.of h1) hs1)⟩⟩
    | tup h1 hs1 => exact ⟨_, _, rfl, .inr ⟨ex_t R1.gh h1, h _ G1 H1 e1 R1 (yld_enumT h1 hs1)⟩⟩
    | _ => exact h.elim
end
end Q4


set_option Elab.async false
set_option linter.all false
set_option maxRecDepth 100000
set_option maxHeartbeats 4000000
/-! Part H: an owned list is read; what is never reached. -/
namespace Q4
open PySem PySem.Spec PyProof.Rows L2 Evl

section
variable {X : Cx} {W : WX} {a b : Expr} {ma mb : M D} {pos p : Pos} {x : Str}
/-- x[e], x a name -/
def mIxV (i : Nat) (mb : M D) : M D := fun S => match S[i]? with
  | some (.fz d) => (mb S).bind fun k S1 => Rs.lift (dIx d k) S1
  | some (.ow _) => (mb S).bind fun k S1 => match S1[i]? with
    | some (.fz d) => Rs.lift (dIx d k) S1
    | some (.ow ds) => Rs.lift (dIx (.lst ds) k) S1
    | _ => .bad
  | _ => .bad
theorem ge_ixV (i : Nat) (hb : GE X W b mb) (hs : PlainIx b := by exact fun _ _ => rfl) (hN : X.N[i]? = some x := by rfl) (hv : Vis X.env.scope x := by first | exact Or.inl rfl | exact Or.inr (Or.inl rfl) | exact Or.inr (Or.inr rfl)) (hd : (x == ("__debug__" : Str)) = false := by decide)
    (hcd : (x == ("__classdict__" : Str)) = false := by decide) : GE X W (.Subscript (.Name x p) b pos) (mIxV i mb) := by
  obtain ⟨tb, pb, qb⟩ := hb
  refine ⟨_, pe_ix ix_seq (pe_var hN hv hd hcd) pb hs, fun B G H σ S Q R h => ?_⟩
  unfold mIxV at h
  have fin : ∀ (d k : D) (v u : V) (G1 H1 : Hp) (S1 : SS), Ex G G1 → Rel X.K B G1 H1 σ S1 → DP X.K G1 v d → DP X.K G1 u k → PoE X.K X.mg B W σ G (Rs.lift (dIx d k) S1) Q → rIx X.K v u H1 Q := fun d k v u G1 H1 S1 e1 R1 dv du h => by
    cases hf : dIx d k with
    | none => rw [hf] at h; exact h.elim
    | some z =>
      rw [hf] at h
      exact od_ix v u d k z G1 H1 Q hf dv du R1.gh fun w G3 H3 al d3 => h w G3 H3 (e1.trans (al.ex R1.gh)) (R1.alc al) d3
  split at h
  · rename_i d hs
    obtain ⟨v, h1, h2⟩ := R.sl i _ hs
    refine ⟨v, h1, qb B G H σ S _ R ?_⟩
    cases hm : mb S with
    | bad => rw [hm] at h; exact h
    | err c pl S' => rw [hm] at h; exact h
    | ok k S1 =>
      rw [hm, Rs.bind_ok] at h
      intro u G1 H1 e1 R1 du
      exact fin d k v u G1 H1 S1 e1 R1 (h2.mono e1) du h
  · rename_i ds hs
    obtain ⟨l, vs, h1, h2, h3, h4, h5⟩ := R.sl i _ hs
    refine ⟨.ref l, h1, qb B G H σ S _ R ?_⟩
    cases hm : mb S with
    | bad => rw [hm] at h; exact h
    | err c pl S' => rw [hm] at h; exact h
    | ok k S1 =>
      rw [hm, Rs.bind_ok] at h
      intro u G1 H1 e1 R1 du
      split at h
      · rename_i d hs1
        obtain ⟨v, g1, g2⟩ := R1.sl i _ hs1
        rw [h1] at g1
        cases g1
        exact fin d k _ u G1 H1 S1 e1 R1 g2 du h
      · rename_i es hs1
        obtain ⟨l', ws, g1, g2, g3, g4, g5⟩ := R1.sl i _ hs1
        rw [h1] at g1
        cases g1
        cases k with
        | int j =>
          cases du
          cases hf : dIx (.lst es) (.int j) with
          | none => rw [hf] at h; exact h.elim
          | some z =>
            rw [hf] at h
            obtain ⟨w, e2, hw⟩ := atI_get g3 hf
            exact .inl ⟨_, _, _, w, rfl, rfl, SqL.of g2, e2, h w G1 H1 e1 R1 hw⟩
        | _ => exact h.elim
      · exact h.elim
  · exact h.elim
/-- the truth of a name -/
def mTruV (i : Nat) : M Bool := fun S => match S[i]? with
  | some (.fz d) => Rs.lift (dTru d) S
  | some (.ow ds) => .ok (!ds.isEmpty) S
  | _ => .bad
theorem gt_truV (i : Nat) (he : ∀ whole, isTrue (.Name x p) X.env whole = (do let v ← whole; standAt (Expr.Name x p).pos; holding [v] (truthy v)) := by intro _; rfl) (hN : X.N[i]? = some x := by rfl) (hv : Vis X.env.scope x := by first | exact Or.inl rfl | exact Or.inr (Or.inl rfl) | exact Or.inr (Or.inr rfl)) (hd : (x == ("__debug__" : Str)) = false := by decide)
    (hcd : (x == ("__classdict__" : Str)) = false := by decide) : GT X W (.Name x p) (mTruV i) := by
  refine ⟨_, pt_truth (pe_var hN hv hd hcd) he, fun B G H σ S Q R h => ?_⟩
  unfold mTruV at h
  split at h
  · rename_i d hs
    obtain ⟨v, h1, h2⟩ := R.sl i _ hs
    cases hf : dTru d with
    | none => rw [hf] at h; exact h.elim
    | some z =>
      rw [hf] at h
      exact ⟨v, h1, z, h2.tru R.gh hf, h G H (Ex.refl _) R⟩
  · rename_i ds hs
    obtain ⟨l, vs, h1, h2, h3, h4, h5⟩ := R.sl i _ hs
    refine ⟨.ref l, h1, !ds.isEmpty, .inl ⟨vs, SqL.of h2, ?_⟩, h G H (Ex.refl _) R⟩
    have := h3.length
    cases vs <;> cases ds <;> simp_all
  · exact h.elim
/-- len of a name -/
def mLenV (i : Nat) : M D := fun S => match S[i]? with
  | some (.fz d) => Rs.lift (dLen [d]) S
  | some (.ow ds) => .ok (.int ds.length) S
  | _ => .bad
theorem ge_lenV (i : Nat) {q : Pos} (hm : X.mg "len" = none) (hg : Gl X "len" := by rfl) (hN : X.N[i]? = some x := by rfl) (hv : Vis X.env.scope x := by first | exact Or.inl rfl | exact Or.inr (Or.inl rfl) | exact Or.inr (Or.inr rfl)) (hd : (x == ("__debug__" : Str)) = false := by decide)
    (hcd : (x == ("__classdict__" : Str)) = false := by decide) (he : starEach [.Name x p] X.env = (false, eval (.Name x p) X.env) :: starEach [] X.env := by rfl) :
    GE X W (.Call (.Name "len" q) [.Name x p] [] pos) (mLenV i) := by
  refine ⟨_, pe_callB call_len hg hm boot_len (pa_cons (pe_var hN hv hd hcd) pa_nil he) (by decide) (by decide) he rfl, fun B G H σ S Q R h => ?_⟩
  unfold mLenV at h
  split at h
  · rename_i d hs
    obtain ⟨v, h1, h2⟩ := R.sl i _ hs
    refine ⟨v, h1, ?_⟩
    cases hf : dLen [d] with
    | none => rw [hf] at h; exact h.elim
    | some z =>
      rw [hf] at h
      exact cd_len [v] [d] z G H Q hf (.one h2) R.gh fun w G3 H3 al d3 => h w G3 H3 (al.ex R.gh) (R.alc al) d3
  · rename_i ds hs
    obtain ⟨l, vs, h1, h2, h3, h4, h5⟩ := R.sl i _ hs
    exact ⟨.ref l, h1, .ref l, ds.length, rfl, .inl ⟨vs, SqL.of h2, h3.length.symm⟩, h _ G H (Ex.refl _) R (.int _)⟩
  · exact h.elim

/-! ### what is never reached -/
def mBad {α : Type} : M α := fun _ => .bad
theorem ge_bad {e : Expr} : GE X W e mBad := ⟨fun _ _ _ => False, ⟨fun _ _ _ _ _ _ h => h.elim⟩, fun _ _ _ _ _ _ _ h => h⟩
theorem gl_bad {e : Expr} : GL X W e mBad := ⟨fun _ _ _ => False, ⟨fun _ _ _ _ _ _ h => h.elim⟩, fun _ _ _ _ _ _ _ h => h⟩
theorem gt_bad {e : Expr} : GT X W e mBad := ⟨fun _ _ _ => False, ⟨fun _ _ _ _ _ _ h => h.elim⟩, fun _ _ _ _ _ _ _ h => h⟩
theorem gs_bad {mp : List Nat} {st : Stmt} : GS X W mp st mBad := ⟨fun _ _ _ => False, ⟨fun _ _ _ _ _ _ h => h.elim⟩, fun _ _ _ _ _ _ _ _ h => h⟩
end
end Q4


set_option Elab.async false
set_option linter.all false
set_option maxRecDepth 100000
set_option maxHeartbeats 4000000
/-! Part K: a tuple so many times. -/
namespace Q4
open PySem PySem.Spec PyProof.Rows L2 Evl
open Sem (wp)
open AutoSeq1 (wpAny_loadPart')

theorem tuple_mulS (l : Addr) (items : Array Value) (n : Nat) (dd : Option Addr) (sl : Array (Option Value)) (x : Int) (u : Tok) (c0 : (decide (x < -(2 ^ 63)) || decide (x ≥ 2 ^ 63)) = false) (c1 : (items.isEmpty || x == 1) = true) :
    Meets (Builtin.«tuple.__mul__» ⟨[.ref l, .int x u], []⟩) (fun _ R s => s.heap.get? l = some { cls := .type "tuple", dict := dd, data := .seq items n, slots := sl } ∧ R (.ok (.ret (Value.ref l))) s) :=
  .of_wp fun prog w A R s h => by
    obtain ⟨hp, g, d, tk, os⟩ := s
    obtain ⟨hl, h⟩ := h
    have f1 := AutoSeq1.idx_int
    wp_walk using wpAny_loadPart' hl
    repeat (first
      | (refine wpAny_ite_false (decide_eq_false (by rw [c0]; exact Bool.false_ne_true)) ?_; wp_walk using wpAny_loadPart' hl)
      | (refine wpAny_ite_true (decide_eq_true c1) ?_; wp_walk using wpAny_loadPart' hl))
    exact ⟨_, rfl, h⟩
theorem tuple_mulE (l : Addr) (items : Array Value) (n : Nat) (dd : Option Addr) (sl : Array (Option Value)) (x : Int) (u : Tok) (c0 : (decide (x < -(2 ^ 63)) || decide (x ≥ 2 ^ 63)) = false) (c1 : (items.isEmpty || x == 1) = false) (c2 : (decide (x ≤ 0) || items.isEmpty) = true) :
    Meets (Builtin.«tuple.__mul__» ⟨[.ref l, .int x u], []⟩) (fun _ R s => s.heap.get? l = some { cls := .type "tuple", dict := dd, data := .seq items n, slots := sl } ∧
      R (.ok (.ret (Value.ref s.heap.objs.size))) { s with heap := s.heap.push { cls := Value.type "tuple", data := Data.seq #[] } }) :=
  .of_wp fun prog w A R s h => by
    obtain ⟨hp, g, d, tk, os⟩ := s
    obtain ⟨hl, h⟩ := h
    have f1 := AutoSeq1.idx_int
    wp_walk using wpAny_loadPart' hl
    repeat (first
      | (refine wpAny_ite_false (decide_eq_false (by rw [c0]; exact Bool.false_ne_true)) ?_; wp_walk using wpAny_loadPart' hl)
      | (refine wpAny_ite_false (decide_eq_false (by rw [c1]; exact Bool.false_ne_true)) ?_; wp_walk using wpAny_loadPart' hl)
      | (refine wpAny_ite_true (decide_eq_true c2) ?_; wp_walk using wpAny_loadPart' hl))
    exact ⟨_, rfl, h⟩

def rRepTA (K : PySem.W.Frag) : R2 := fun x y H Q => ∃ l k xs, x = .ref l ∧ y = .int k ∧ SqT K H l xs ∧ -1000000 ≤ k ∧ k ≤ 1000000 ∧ xs.length * k.toNat ≤ 1000000 ∧ xs.length ≤ 1000000 ∧
  ((xs = [] ∨ k = 1) → Q (.ref l) H) ∧ (¬ (xs = [] ∨ k = 1) → ∀ p, H p = none → Q (.ref p) (upd H p (.tup (List.replicate k.toNat xs).flatten)))
section
variable {X : Cx}
theorem op_repTA : OpR X (binaryOp .Mult) (rRepTA X.K) := by
  intro pins s σ H x y v u Q I rx ry h
  obtain ⟨l, k, xs, rfl, rfl, hT, h1, h2, hz, hz2, q1, q2⟩ := h
  cases rx
  obtain ⟨t, rfl⟩ := ry
  obtain ⟨its, r, ⟨⟨cls, dd, data, sl⟩, ho, hc, n, hd⟩, hs⟩ := I.tuple hT
  simp only at hc hd
  subst hc hd
  have hle : its.length = xs.length := r.length.symm
  have hsz0 : its.toArray.size = xs.length := by rw [List.size_toArray, hle]
  have c0 : (decide (k < -(2 ^ 63)) || decide (k ≥ 2 ^ 63)) = false := by
    rw [decide_eq_false (by omega), decide_eq_false (by omega)] <;> rfl
  have hem : its.toArray.isEmpty = xs.isEmpty := by cases r <;> simp
  refine wpAny_binaryOp_repeat_ref (T := "tuple") (U := "int") (by decide) ⟨_, ho, rfl⟩ (fun s' => typeIs_int s' k t) noFill_tuple_mul F.fills_int_mul F.slot_int_rmul repeat_tuple F.slot_int_index.lookup
    (call_meets F.slot_int_rmul (typeIs_int s k t) F.entry_int_rmul (F.args_int_rmul_2 _ _) (int_rmul_tuple k t l its.toArray n dd sl)
      ⟨ho, rfl, ⟨_, ho, rfl⟩, ?_⟩)
  by_cases hsame : xs = [] ∨ k = 1
  · have c1 : (its.toArray.isEmpty || k == 1) = true := by
      rw [hem]
      rcases hsame with e | e
      · subst e; rfl
      · subst e; simp
    exact call_meets F.slot_tuple_mul ⟨_, ho, rfl⟩ F.entry_tuple_mul (F.args_tuple_mul_2 _ _) (tuple_mulS l its.toArray n dd sl k t c0 c1) ⟨ho, ⟨.ref l, H, I, rfl, q1 hsame⟩⟩
  · have hne : xs ≠ [] := fun e => hsame (.inl e)
    have hk1 : k ≠ 1 := fun e => hsame (.inr e)
    have hxe : xs.isEmpty = false := by cases xs <;> simp_all
    have c1 : (its.toArray.isEmpty || k == 1) = false := by
      rw [hem, hxe, Bool.false_or]
      exact beq_eq_false_iff_ne.mpr hk1
    by_cases hk : k ≤ 0
    · have c2 : (decide (k ≤ 0) || its.toArray.isEmpty) = true := by rw [decide_eq_true hk]; rfl
      refine call_meets F.slot_tuple_mul ⟨_, ho, rfl⟩ F.entry_tuple_mul (F.args_tuple_mul_2 _ _) (tuple_mulE l its.toArray n dd sl k t c0 c1 c2) ⟨ho, ?_⟩
      have e0 : k.toNat = 0 := by omega
      have q3 := q2 hsame
      rw [e0] at q3
      refine ⟨.ref s.heap.objs.size, _, I.laid (t' := s.toks) (o := .tup []) (fun b ob q => Heap.get?_push_of_some _ q) (Nat.le_refl _) ?_, rfl, q3 _ (I.hok.fresh (Nat.le_refl _))⟩
      exact ⟨Nat.zero_le _, [], .nil, IsTup.new _ _⟩
    · have hi : its.toArray.isEmpty = false := by rw [hem, hxe]
      have c2 : (decide (k ≤ 0) || its.toArray.isEmpty) = false := by
        rw [hi, Bool.or_false]
        exact decide_eq_false hk
      have hm : ((its.toArray.size : Nat) : Int) * k ≤ 1000000 := by
        rw [hsz0]
        have : ((xs.length * k.toNat : Nat) : Int) = (xs.length : Int) * k := by
          rw [Int.natCast_mul, Int.toNat_of_nonneg (by omega)]
        omega
      have flen : (List.replicate k.toNat its).flatten.length ≤ sizeLine := by
        rw [PyProof.Rows.lm_len_rep_flat, hle, sizeLine_eq, Nat.mul_comm]
        omega
      have c4 : Builtin.Tuple.tupleTooMany (((its.toArray.size : Nat) : Int) * k) = false := by
        unfold Builtin.Tuple.tupleTooMany
        rw [sizeLine_eq]
        exact decide_eq_false (by omega)
      refine call_meets F.slot_tuple_mul ⟨_, ho, rfl⟩ F.entry_tuple_mul (F.args_tuple_mul_2 _ _) (tuple_mulW l its.toArray n dd sl k t c0 c1 c2 (by omega) c4 (by rw [size_rep, List.size_toArray]; exact flen)) ⟨ho, ?_⟩
      rw [size_rep]
      refine ⟨.ref s.heap.objs.size, _, I.laid (t' := s.toks) (o := .tup (List.replicate k.toNat xs).flatten) (fun b ob q => Heap.get?_push_of_some _ q) (Nat.le_refl _) ?_, rfl, q2 hsame _ (I.hok.fresh (Nat.le_refl _))⟩
      exact ⟨by rw [PyProof.Rows.lm_len_rep_flat, sizeLine_eq, Nat.mul_comm]; omega, _, r.rep k.toNat, IsTup.new _ _⟩
end
def dRepT : D → D → Option D
  | .tup ds, .int k => if -1000000 ≤ k ∧ k ≤ 1000000 ∧ ds.length * k.toNat ≤ 1000000 ∧ ds.length ≤ 1000000 then some (.tup (List.replicate k.toNat ds).flatten) else none
  | _, _ => none
theorem od_repT {K : PySem.W.Frag} : OpD K (rRepTA K) dRepT := by
  intro x y a b d G H Q e dx dy gh k
  unfold dRepT at e
  split at e
  · split at e
    · rename_i ds z hc
      cases e
      cases dx with
      | tup h1 hs1 =>
      rename_i aa xs
      cases dy
      refine ⟨_, z, _, rfl, rfl, ex_t gh h1, hc.1, hc.2.1, by rw [hs1.length]; exact hc.2.2.1, by rw [hs1.length]; exact hc.2.2.2, fun hz => ?_, fun hz p hp => ?_⟩
      · refine k _ G H .refl ?_
        rcases hz with e | e
        · subst e
          cases hs1
          rw [show (List.replicate z.toNat ([] : List D)).flatten = [] by simp]
          exact .tup h1 .nil
        · subst e
          rw [show (List.replicate (1 : Int).toNat ds).flatten = ds by simp]
          exact .tup h1 hs1
      · have al : Alc G H (upd G p (.tup (List.replicate z.toNat xs).flatten)) (upd H p (.tup (List.replicate z.toNat xs).flatten)) := .inr ⟨p, _, hp, rfl, rfl⟩
        exact k _ _ _ al (.tup (SqT.of upd_same) ((hs1.rep _).mono (al.ex gh)))
    · cases e
  · cases e
end Q4


set_option Elab.async false
set_option linter.all false
set_option maxRecDepth 100000
set_option maxHeartbeats 4000000
/-! Part I: operators of any kind, slices of any kind, a def as it is called. -/
namespace Q4
open PySem PySem.Spec PyProof.Rows L2 Evl

/-! ### + and * of any kind, the list frozen -/
section
variable {K : PySem.W.Frag}
theorem OpL.d {r : R2} {f : D → D → Option (List D)} (h : OpL K r f) : OpD K r (fun a b => (f a b).map .lst) := by
  intro x y a b d G H Q e dx dy gh k
  obtain ⟨ds, e1, rfl⟩ := Option.map_eq_some_iff.mp e
  refine h x y a b ds G H Q e1 dx dy gh fun p vs hp dv => ?_
  have al : Alc G H (upd G p (.lst vs)) (upd H p (.lst vs)) := .inr ⟨p, _, hp, rfl, rfl⟩
  exact k _ _ _ al (.lst upd_same (dv.mono (al.ex gh)))
def dAddX (a b : D) : Option D := (dAdd a b).or ((dCat a b).map .lst)
abbrev rAddX (K : PySem.W.Frag) : R2 := fun x y H Q => rAddD K x y H Q ∨ rCat x y H Q
theorem op_addX {X : Cx} : OpR X (binaryOp .Add) (rAddX X.K) := OpR.or (r := rAddD X.K) (r' := rCat) or_add op_cat
theorem od_addX : OpD K (rAddX K) dAddX := OpD.or (r := rAddD K) (r' := rCat) od_add ol_cat.d
@[simp] theorem dAddX_int (i j : Int) : dAddX (.int i) (.int j) = some (.int (i + j)) := rfl
def dMulL (a b : D) : Option D := (dRep a b).map .lst
def dMulLT (a b : D) : Option D := (dMulL a b).or (dRepT a b)
def dMulX (a b : D) : Option D := (dMulI a b).or (dMulLT a b)
abbrev rMulLT (K : PySem.W.Frag) : R2 := fun x y H Q => rRep x y H Q ∨ rRepTA K x y H Q
abbrev rMulX (K : PySem.W.Frag) : R2 := fun x y H Q => (rI CMulW fun i j => V.int (i * j)) x y H Q ∨ rMulLT K x y H Q
theorem op_mulX {X : Cx} : OpR X (binaryOp .Mult) (rMulX X.K) := OpR.or (r := rI CMulW fun i j => V.int (i * j)) (r' := rMulLT X.K) op_mulW (OpR.or (r := rRep) (r' := rRepTA X.K) op_rep op_repTA)
theorem od_mulX : OpD K (rMulX K) dMulX := OpD.or (r := rI CMulW fun i j => V.int (i * j)) (r' := rMulLT K) od_mulI (OpD.or (r := rRep) (r' := rRepTA K) ol_rep.d od_repT)
theorem dMulX_int (i j : Int) : dMulX (.int i) (.int j) = if i.natAbs.log2 + j.natAbs.log2 < 1000000 then some (.int (i * j)) else none := by
  show (if i.natAbs.log2 + j.natAbs.log2 < 1000000 then some (D.int (i * j)) else none).or none = _
  split <;> rfl
/-- //= and %= of ints -/
def dIFdiv : D → D → Option D
  | .int i, .int j => if 0 < j ∧ j < 1073741824 then some (.int (i / j)) else none
  | _, _ => none
theorem od_ifdiv : OpD K (rI CDiv fun i j => .int (i / j)) dIFdiv := opd_int (gd := fun i j => .int (i / j)) (fun i j G => .int _) fun a b d e => by
  unfold dIFdiv at e
  split at e
  · split at e
    · rename_i hc
      exact ⟨_, _, rfl, rfl, hc, (Option.some.inj e).symm⟩
    · cases e
  · cases e
def dIMul : D → D → Option D
  | .int i, .int j => if (-(2 ^ 64) < i ∧ i < 2 ^ 64) ∨ (-(2 ^ 64) < j ∧ j < 2 ^ 64) then some (.int (i * j)) else none
  | _, _ => none
theorem od_imul : OpD K (rI CMul fun i j => .int (i * j)) dIMul := opd_int (gd := fun i j => .int (i * j)) (fun i j G => .int _) fun a b d e => by
  unfold dIMul at e
  split at e
  · split at e
    · rename_i hc
      exact ⟨_, _, rfl, rfl, hc, (Option.some.inj e).symm⟩
    · cases e
  · cases e
end

/-! ### slices of any kind -/
section
variable {X : Cx} {W : WX} {a : Expr} {ma : M D} {lo hi : Option Expr} {ml mh : M (Option Int)} {p2 pos : Pos}
def mSlX (ma : M D) (ml mh : M (Option Int)) : M D := fun S => (ma S).bind fun a S1 => (ml S1).bind fun l S2 => (mh S2).bind fun u S3 => match a with
  | .tup ds => .ok (.tup (cutD ds l u)) S3
  | .lst ds => .ok (.lst (cutD ds l u)) S3
  | _ => .bad
theorem ge_slX (ha : GE X W a ma) (hl : GO X W lo ml) (hh : GO X W hi mh) : GE X W (.Subscript a (.Slice lo hi none p2) pos) (mSlX ma ml mh) := by
  obtain ⟨ta, pa, qa⟩ := ha
  obtain ⟨tl, pl, ql⟩ := hl
  obtain ⟨th, ph, qh⟩ := hh
  refine ⟨_, pe_slice (SlR.or (r := rSlA X.K) (r' := rSlL X.K) sl_tupA sl_list) pa pl ph, fun B G H σ S Q R h => ?_⟩
  refine qa B G H σ S _ R ?_
  unfold mSlX at h
  cases hm : ma S with
  | bad => rw [hm] at h; exact h
  | err c pl S' => rw [hm] at h; exact h
  | ok d S' =>
    rw [hm, Rs.bind_ok] at h
    intro v G1 H1 e1 R1 d1
    refine ql B G1 H1 σ S' _ R1 ?_
    cases hn : ml S' with
    | bad => rw [hn] at h; exact h
    | err c pl S2 => rw [hn] at h; exact fun cls dd G' H' e => h cls dd G' H' (e1.trans e)
    | ok l S2 =>
      rw [hn, Rs.bind_ok] at h
      intro G2 H2 e2 R2
      refine qh B G2 H2 σ S2 _ R2 ?_
      cases hq : mh S2 with
      | bad => rw [hq] at h; exact h
      | err c pl S3 => rw [hq] at h; exact fun cls dd G' H' e => h cls dd G' H' ((e1.trans e2).trans e)
      | ok u S3 =>
        rw [hq, Rs.bind_ok] at h
        intro G3 H3 e3 R3
        cases d1 with
        | tup h1 hs1 =>
          rename_i aa xs ds
          have ht := ex_t (e2.trans e3) h1
          have hs := hs1.mono (e2.trans e3)
          have ln := hs.length
          refine .inl ⟨_, _, rfl, ex_t R3.gh ht, fun z => ?_, fun z p hp => ?_⟩
          · rw [ln] at z
            refine h _ G3 H3 ((e1.trans e2).trans e3) R3 ?_
            rw [cutD_whole z]
            exact .tup ht hs
          · have al : Alc G3 H3 _ _ := .inr ⟨p, .tup (cutV xs l u), hp, rfl, rfl⟩
            exact h _ _ _ (((e1.trans e2).trans e3).trans (al.ex R3.gh)) (R3.alc al) (.tup (SqT.of upd_same) ((hs.cut l u).mono (al.ex R3.gh)))
        | lst h1 hs1 =>
          rename_i aa xs ds
          have hs := hs1.mono (e2.trans e3)
          refine .inr ⟨_, _, rfl, SqL.of (R3.gh _ _ ((e2.trans e3) _ _ h1)), fun p hp => ?_⟩
          have al : Alc G3 H3 _ _ := .inr ⟨p, .lst (cutV xs l u), hp, rfl, rfl⟩
          exact h _ _ _ (((e1.trans e2).trans e3).trans (al.ex R3.gh)) (R3.alc al) (.lst upd_same ((hs.cut l u).mono (al.ex R3.gh)))
        | _ => exact h.elim
/-- a name that is returned: the owned list is handed on -/
def mRetV (i : Nat) : M Fl := fun S => match S[i]? with
  | some (.ow ds) => .ok (.rl ds) (S.set i .no)
  | some (.fz d) => .ok (.rt d) S
  | _ => .bad
theorem gs_retV {mp : List Nat} (i : Nat) {x : Str} {pos' : Pos} (hm : i ∉ mp := by decide) (hN : X.N[i]? = some x := by rfl) (hv : Vis X.env.scope x := by first | exact Or.inl rfl | exact Or.inr (Or.inl rfl) | exact Or.inr (Or.inr rfl)) (hd : (x == ("__debug__" : Str)) = false := by decide)
    (hcd : (x == ("__classdict__" : Str)) = false := by decide) : GS X W mp (.Return (some (.Name x pos')) pos) (mRetV i) := by
  refine ⟨_, ps_ret (pe_var hN hv hd hcd), fun B G H σ S Z nm R h => ?_⟩
  unfold mRetV at h
  cases hs : S[i]? with
  | none => rw [hs] at h; exact h.elim
  | some s =>
    rw [hs] at h
    cases s with
    | no => exact h.elim
    | fz d =>
      obtain ⟨v, h1, h2⟩ := R.sl i _ hs
      exact ⟨v, h1, h v σ G H (Ex.refl _) R h2⟩
    | ow ds =>
      obtain ⟨l, vs, h1, h2, h3, h4, h5⟩ := R.sl i _ hs
      have hi : i < S.length := (List.getElem?_eq_some_iff.mp hs).1
      have bl : B.H l = none := by
        rcases h5 with z | z
        · exact z
        · exact absurd (nm _ z) hm
      have R' : Rel X.K B G H σ (S.set i .no) := by
        refine ⟨R.gh, R.gg, R.fr, R.kp, by rw [List.length_set]; exact R.ln, fun j s hj => ?_, fun j k xs ys hjk hj hk => ?_, R.mm, R.mh⟩
        · by_cases ej : j = i
          · subst ej
            rw [List.getElem?_set_self hi] at hj
            cases hj
            trivial
          · rw [List.getElem?_set_ne (Ne.symm ej)] at hj
            exact R.sl j s hj
        · have nj : j ≠ i := fun z => by subst z; rw [List.getElem?_set_self hi] at hj; cases hj
          have nk : k ≠ i := fun z => by subst z; rw [List.getElem?_set_self hi] at hk; cases hk
          rw [List.getElem?_set_ne (Ne.symm nj)] at hj
          rw [List.getElem?_set_ne (Ne.symm nk)] at hk
          exact R.ds j k xs ys hjk hj hk
      refine ⟨_, h1, h l vs σ G H (Ex.refl _) R' h2 h3 h4 bl fun j xs hj hσ => ?_⟩
      have nj : j ≠ i := fun z => by subst z; rw [List.getElem?_set_self hi] at hj; cases hj
      rw [List.getElem?_set_ne (Ne.symm nj)] at hj
      exact R.ds j i xs ds nj hj hs (by rw [hσ, h1])
/-- a number of the module -/
theorem ge_glob {x : Str} {i : Int} {t : Tok} (hm : X.mg x = some (.int i t)) (hg : Gl X x := by rfl) (hd : (x == ("__debug__" : Str)) = false := by decide) : GE X W (.Name x pos) (mC (.int i)) :=
  ⟨_, pe_glob hg hm (v := .int i) ⟨t, rfl⟩ hd, fun B G H σ S Q R h => h _ G H (Ex.refl _) R (.int i)⟩
end

/-! ### a def, called by its name -/
structure Cal4 (P : Program) (w : World) (K : PySem.W.Frag) (mg : Str → Option Value) (base : Heap) (k : Nat) (x : Str) (n : Nat) (mp : List Nat) (fm : FM) (dds : List D) : Prop where
  ex : ∃ (f : Addr) (fd : FuncData) (ps : List Str) (dvs : List V) (dus : List Value), FnG P w K mg base k f fd ps mp fm ∧ mg x = some (.ref f) ∧ PySem.W.keepIn K (.ref f) = true ∧ Binds K fd ps dus ∧ Vals dvs dus ∧ (∀ G, DPs K G dvs dds) ∧ n + dvs.length = ps.length
section
variable {P : Program} {w : World} {K : PySem.W.Frag} {mg : Str → Option Value} {base : Heap}
theorem fun_gD {x qual : Str} {st : Stmt} {f : Addr} {fd : FuncData} {dvs : List V} {N ps : List Str} {k : Nat} {mp : List Nat} {m : M Fl} (F : FunD K x qual (defArgs st) (defBody st) (defScope st) dvs [] f fd) (S : FnScope N ps (defScope st))
    (hbody : ∀ (cdv : Value) (A : Around) (outer : List Env) (s : Shared) (H : Hp) (E : XK), Room k (A.deeper (envOfC qual (defScope st) s.heap.objs.size f cdv)) → A.guards = some [] →
      GSs (cxOf (L2.CX P w) P w K mg base N qual (defScope st) f cdv A outer s H E) (fun c d _ H' => E c d H') mp (defBody st) m) : FnG P w K mg base (k + 1) f fd ps mp (fnM N.length mp m) := by
  obtain ⟨oc, od, dV, kV, doc, pm, an, cdv, ct, osl, rfl, lk, hcd, _, _⟩ := F.ex
  refine ⟨fun A outer s H args us vs Q E hr hg e0 hb r hl hsp => ?_⟩
  have KX : K.In s.heap := e0.mod.kin.keeps fun b o e => (e0.bs b o e).1
  have lim : s.heap.NoLimit := e0.mod.nolimit.keeps fun b o e => (e0.bs b o e).1
  have hpl : ps.length ≤ N.length := by
    have q := congrArg List.length S.pre
    rw [List.length_take] at q
    omega
  have hkind : ∀ y ∈ ps.zip us, (defScope st).names.lookup y.1 = some .local ∨ ((defScope st).names.lookup y.1 = some .cell ∧ ((cellsFrom (s.heap.objs.size + 1) (defScope st).names []).lookup y.1).isSome = true) := fun y hy => by
    obtain ⟨n, v⟩ := y
    rcases S.par n (List.of_mem_zip hy).1 with q | q
    · exact .inl q
    · exact .inr ⟨q, PySem.W.cellsFrom_some _ _ _ (.inl q)⟩
  refine codeAny_call_function hr.depth (KX _ _ lk) rfl S.co S.gen rfl (PySem.W.codeRec_of KX hcd) (hb _ _ _ _ (wpAny_newFunctionEnv_cells S.kind hkind fun env he s1 x => ?_))
  subst he
  refine ⟨lim.keeps x.toInCall.keep, codeAny_func ?_⟩
  obtain ⟨G, Ar, gh, ao, po⟩ := hsp
  obtain ⟨t, ht, hq⟩ := hbody cdv A outer s H E (hr.deeper _) hg
  have I : Inv (cxOf (L2.CX P w) P w K mg base N qual (defScope st) f cdv A outer s H E) [] (L2.start N vs) H s1 := inv_start S hr.hd e0 hl r x
  have R0 := rel_start (N := N) gh ao (by rw [hl]; exact hpl)
  have fin : ∀ {σ' : L2.St} {H' : Hp} {v : V} {u : Value} {s' : Shared}, Inv (cxOf (L2.CX P w) P w K mg base N qual (defScope st) f cdv A outer s H E) [] σ' H' s' → RelV v u → Q v H' → CE outer P w H s Q u s' :=
    fun J rv q => ⟨_, _, J.os, J.bare, J.base, J.hok, rv, q⟩
  refine wpAny_mono (ht.run [] s1 (L2.start N vs) H { nx := fun _ H' => Q .non H', rt := Q } I (hq ⟨G, H, parM mp vs⟩ G H (L2.start N vs) (Ar ++ List.replicate (N.length - Ar.length) SV.no) _ (fun m hm => (mem_parM.mp (show (m.1, m.2) ∈ parM mp vs from hm)).1) R0 ?_)) (fun fl s' hs => ?_) fun e s' hs => hs
  · unfold fnM at po
    cases hm : m (Ar ++ List.replicate (N.length - Ar.length) .no) with
    | bad => rw [hm] at po; exact po
    | err c pl S' =>
      rw [hm] at po
      simp only at po
      by_cases ck : mp.all (owAt (S'.take Ar.length)) = true
      · rw [if_pos ck] at po
        exact fun cls dd σ' G' H' e1 R1 er => po cls dd G' H' (post_of ao R1 ck) er
      · rw [if_neg ck] at po
        exact po.elim
    | ok fl S' =>
      rw [hm] at po
      simp only at po
      by_cases ck : mp.all (owAt (S'.take Ar.length)) = true
      · rw [if_pos ck] at po
        cases fl with
        | nx => exact fun σ' G' H' e1 R1 => po .non G' H' (post_of ao R1 ck) .non
        | rt d => exact fun v σ' G' H' e1 R1 dv => po v G' H' (post_of ao R1 ck) dv
        | rl ds => exact fun p ws σ' G' H' e1 R1 hp dw gp bp _ => po p ws G' H' (post_of ao R1 ck) hp dw gp bp
        | bk => exact po.elim
        | ct => exact po.elim
      · rw [if_neg ck] at po
        exact po.elim
  · cases fl with
    | ret u =>
      obtain ⟨v, σ', H', J, rv, q⟩ := hs
      exact fin J rv q
    | next =>
      obtain ⟨σ', H', J, q⟩ := hs
      exact fin (v := V.non) (u := Value.none) J rfl q
    | brk =>
      obtain ⟨_, _, _, q⟩ := hs
      exact False.elim q
    | cont =>
      obtain ⟨_, _, _, q⟩ := hs
      exact False.elim q
/-- without defaults -/
theorem cal_n {x : Str} {st : Stmt} {f : Addr} {fd : FuncData} {ps : List Str} {k : Nat} {mp : List Nat} {fm : FM} (F : FunD K x x (defArgs st) (defBody st) (defScope st) [] [] f fd) (g : FnG P w K mg base k f fd ps mp fm) (hm : mg x = some (.ref f)) {n : Nat} (hn : n = ps.length)
    (h : ∀ (kV doc pm : Value) (an : Option Addr) (cdv ct : Value) (us : List Value), us.length = ps.length → bindArgs (PySem.W.fnOf x x (defArgs st) (defBody st) (defScope st) .none kV doc pm an cdv ct) ⟨us, []⟩ = pure (ps.zip us)) : Cal4 P w K mg base k x n mp fm [] :=
  ⟨f, fd, ps, [], [], g, hm, F.kp, F.bindsN h, .nil, fun _ => .nil, hn⟩
/-- n values are given, the defaults behind the first j fill up -/
theorem cal_d {x : Str} {st : Stmt} {f : Addr} {fd : FuncData} {ps : List Str} {dvs : List V} {dds : List D} {k : Nat} {mp : List Nat} {fm : FM} (F : FunD K x x (defArgs st) (defBody st) (defScope st) dvs [] f fd) (g : FnG P w K mg base k f fd ps mp fm) (hm : mg x = some (.ref f)) (n j : Nat) (hd : dvs ≠ []) (hn : n + (dvs.length - j) = ps.length)
    (h : ∀ (T : Addr) (kV doc pm : Value) (an : Option Addr) (cdv ct : Value) (us its : List Value), us.length = n → its.length = dvs.length →
      ∃ k, bindArgs (PySem.W.fnOf x x (defArgs st) (defBody st) (defScope st) (.ref T) kV doc pm an cdv ct) ⟨us, []⟩ = seqItems? (.ref T) >>= k ∧ k (some its.toArray) = pure (ps.zip (us ++ its.drop j)))
    (hdd : ∀ G, DPs K G (dvs.drop j) dds) : Cal4 P w K mg base k x n mp fm dds := by
  obtain ⟨ds, hv, hb⟩ := F.binds1 n j hd hn h
  exact ⟨f, fd, ps, dvs.drop j, ds, g, hm, F.kp, hb, hv, hdd, by rw [List.length_drop]; exact hn⟩
end
section
variable {X : Cx} {W : WX} {k j : Nat} {fm : FM} {x y : Str} {p p2 pos : Pos} {e : Expr} {es : List Expr} {ms : M (List D)} {dds : List D} {n : Nat}
theorem ge_cal (C : Cal4 X.prog X.w X.K X.mg X.base k x n [] fm dds) (hr : Room j X.A) (hj : k ≤ j) (hgd : X.A.guards = some []) (tk : Takes X W) (ha : GA X W (e :: es) ms)
    (hlen : HasLen ms n := by repeat' (first | exact ml_nil | apply ml_cons)) (hg : Gl X x := by rfl)
    (hdb : (x == ("__debug__" : Str)) = false := by decide) (he : starEach (e :: es) X.env = (false, eval e X.env) :: starEach es X.env := by rfl) (hpl : (backTo pos (starEach es X.env)).any (·.1) = false := by rfl) : GE X W (.Call (.Name x p) (e :: es) [] pos) (mFn fm dds ms) := by
  obtain ⟨f, fd, ps, dvs, dus, F, hm, hk, hb, hd, hdd, hn⟩ := C.ex
  exact ge_call F (hr.mono hj) hgd hm hk hb hd hdd tk ha hlen hn hg hdb he hpl
theorem gl_cal (C : Cal4 X.prog X.w X.K X.mg X.base k x n [] fm dds) (hr : Room j X.A) (hj : k ≤ j) (hgd : X.A.guards = some []) (tk : Takes X W) (ha : GA X W (e :: es) ms)
    (hlen : HasLen ms n := by repeat' (first | exact ml_nil | apply ml_cons)) (hg : Gl X x := by rfl)
    (hdb : (x == ("__debug__" : Str)) = false := by decide) (he : starEach (e :: es) X.env = (false, eval e X.env) :: starEach es X.env := by rfl) (hpl : (backTo pos (starEach es X.env)).any (·.1) = false := by rfl) : GL X W (.Call (.Name x p) (e :: es) [] pos) (mFnL fm dds ms) := by
  obtain ⟨f, fd, ps, dvs, dus, F, hm, hk, hb, hd, hdd, hn⟩ := C.ex
  exact gl_call F (hr.mono hj) hgd hm hk hb hd hdd tk ha hlen hn hg hdb he hpl
theorem ge_calM (i : Nat) (C : Cal4 X.prog X.w X.K X.mg X.base k x (n + 1) [0] fm []) (hr : Room j X.A) (hj : k ≤ j) (hgd : X.A.guards = some []) (tk : Takes X W) (ha : GA X W es ms)
    (hlen : HasLen ms n := by repeat' (first | exact ml_nil | apply ml_cons)) (hN : X.N[i]? = some y := by rfl) (hv : Vis X.env.scope y := by first | exact Or.inl rfl | exact Or.inr (Or.inl rfl) | exact Or.inr (Or.inr rfl))
    (hyd : (y == ("__debug__" : Str)) = false := by decide) (hycd : (y == ("__classdict__" : Str)) = false := by decide) (hg : Gl X x := by rfl)
    (hdb : (x == ("__debug__" : Str)) = false := by decide) (he : starEach (.Name y p2 :: es) X.env = (false, eval (.Name y p2) X.env) :: starEach es X.env := by rfl) (hpl : (backTo pos (starEach es X.env)).any (·.1) = false := by rfl) : GE X W (.Call (.Name x p) (.Name y p2 :: es) [] pos) (mFnM i fm ms) := by
  obtain ⟨f, fd, ps, dvs, dus, F, hm, hk, hb, hd, hdd, hn⟩ := C.ex
  have z : dvs = [] := by
    have := hdd (fun _ => none)
    cases this
    rfl
  subst z
  cases hd
  exact ge_callM i F (hr.mono hj) hgd hm hk hb tk ha hlen (by simpa using hn) hN hv hyd hycd hg hdb he hpl
end
end Q4


set_option Elab.async false
set_option linter.all false
set_option maxRecDepth 100000
set_option maxHeartbeats 4000000
/-! Part J: the boot names, not of any value, greatest and least of a list, defs as facts. -/
namespace Q4
open PySem PySem.Spec PyProof.Rows L2 Evl

theorem bt_len : bootBuiltins "len" = some (.builtin "len") := by decide +kernel
theorem bt_abs : bootBuiltins "abs" = some (.builtin "abs") := by decide +kernel
theorem bt_sum : bootBuiltins "sum" = some (.builtin "sum") := by decide +kernel
theorem bt_all : bootBuiltins "all" = some (.builtin "all") := by decide +kernel
theorem bt_any : bootBuiltins "any" = some (.builtin "any") := by decide +kernel
theorem bt_max : bootBuiltins "max" = some (.builtin "max") := by decide +kernel
theorem bt_min : bootBuiltins "min" = some (.builtin "min") := by decide +kernel
theorem bt_repr : bootBuiltins "repr" = some (.builtin "repr") := by decide +kernel
theorem bt_sorted : bootBuiltins "sorted" = some (.builtin "sorted") := by decide +kernel
theorem bt_int : bootBuiltins "int" = some (.type "int") := by decide +kernel
theorem bt_bool : bootBuiltins "bool" = some (.type "bool") := by decide +kernel
theorem bt_str : bootBuiltins "str" = some (.type "str") := by decide +kernel
theorem bt_tuple : bootBuiltins "tuple" = some (.type "tuple") := by decide +kernel
theorem bt_list : bootBuiltins "list" = some (.type "list") := by decide +kernel
theorem bt_dict : bootBuiltins "dict" = some (.type "dict") := by decide +kernel
theorem uh {k : Nat} {A : Around} (hr : Room k A) : A.units + 64 < cLine := by have := hr.un; omega

/-! ### not -/
section
variable {X : Cx} {W : WX} {a : Expr} {ma : M D} {pos p : Pos} {x : Str}
def mNotX (m : M D) : M D := fun S => (m S).bind fun d S1 => Rs.lift ((dTru d).map fun b => .bl (!b)) S1
theorem ge_notX (ha : GE X W a ma) : GE X W (.UnaryOp .Not a pos) (mNotX ma) := by
  obtain ⟨ta, pa, qa⟩ := ha
  refine ⟨_, pe_notT pa, fun B G H σ S Q R h => ?_⟩
  refine qa B G H σ S _ R ?_
  unfold mNotX at h
  cases hm : ma S with
  | bad => rw [hm] at h; exact h
  | err c pl S' => rw [hm] at h; exact h
  | ok d S' =>
    rw [hm, Rs.bind_ok] at h
    intro v G1 H1 e1 R1 d1
    cases hf : dTru d with
    | none => rw [hf] at h; exact h.elim
    | some z =>
      rw [hf] at h
      exact ⟨z, d1.tru R1.gh hf, h _ G1 H1 e1 R1 (.bl _)⟩
def mNotN (i : Nat) : M D := fun S => match S[i]? with
  | some (.fz d) => Rs.lift ((dTru d).map fun b => .bl (!b)) S
  | some (.ow ds) => .ok (.bl ds.isEmpty) S
  | _ => .bad
theorem ge_notN (i : Nat) (hN : X.N[i]? = some x := by rfl) (hv : Vis X.env.scope x := by first | exact Or.inl rfl | exact Or.inr (Or.inl rfl) | exact Or.inr (Or.inr rfl)) (hd : (x == ("__debug__" : Str)) = false := by decide)
    (hcd : (x == ("__classdict__" : Str)) = false := by decide) : GE X W (.UnaryOp .Not (.Name x p) pos) (mNotN i) := by
  refine ⟨_, pe_notT (pe_var hN hv hd hcd), fun B G H σ S Q R h => ?_⟩
  unfold mNotN at h
  split at h
  · rename_i d hs
    obtain ⟨v, h1, h2⟩ := R.sl i _ hs
    cases hf : dTru d with
    | none => rw [hf] at h; exact h.elim
    | some z =>
      rw [hf] at h
      exact ⟨v, h1, z, h2.tru R.gh hf, h _ G H (Ex.refl _) R (.bl _)⟩
  · rename_i ds hs
    obtain ⟨l, vs, h1, h2, h3, h4, h5⟩ := R.sl i _ hs
    refine ⟨.ref l, h1, !ds.isEmpty, .inl ⟨vs, SqL.of h2, ?_⟩, ?_⟩
    · have := h3.length
      cases vs <;> cases ds <;> simp_all
    · rw [Bool.not_not]
      exact h _ G H (Ex.refl _) R (.bl _)
  · exact h.elim
end

/-! ### greatest and least -/
def maxI : List Int → Int
  | [] => 0
  | [a] => a
  | a :: r => if maxI r > a then maxI r else a
def minI : List Int → Int
  | [] => 0
  | [a] => a
  | a :: r => if minI r < a then minI r else a
theorem maxI_spec : ∀ (ns : List Int), ns ≠ [] → maxI ns ∈ ns ∧ ∀ y ∈ ns, y ≤ maxI ns
  | [], h => absurd rfl h
  | [a], _ => ⟨by simp [maxI], fun y hy => by simp at hy; simp [maxI, hy]⟩
  | a :: b :: r, _ => by
    obtain ⟨h1, h2⟩ := maxI_spec (b :: r) (by simp)
    show (if maxI (b :: r) > a then maxI (b :: r) else a) ∈ a :: b :: r ∧ ∀ y ∈ a :: b :: r, y ≤ (if maxI (b :: r) > a then maxI (b :: r) else a)
    by_cases c : maxI (b :: r) > a
    · rw [if_pos c]
      refine ⟨List.mem_cons_of_mem _ h1, fun y hy => ?_⟩
      rcases List.mem_cons.mp hy with rfl | hy
      · omega
      · exact h2 y hy
    · rw [if_neg c]
      refine ⟨List.mem_cons_self, fun y hy => ?_⟩
      rcases List.mem_cons.mp hy with rfl | hy
      · omega
      · have := h2 y hy; omega
theorem minI_spec : ∀ (ns : List Int), ns ≠ [] → minI ns ∈ ns ∧ ∀ y ∈ ns, minI ns ≤ y
  | [], h => absurd rfl h
  | [a], _ => ⟨by simp [minI], fun y hy => by simp at hy; simp [minI, hy]⟩
  | a :: b :: r, _ => by
    obtain ⟨h1, h2⟩ := minI_spec (b :: r) (by simp)
    show (if minI (b :: r) < a then minI (b :: r) else a) ∈ a :: b :: r ∧ ∀ y ∈ a :: b :: r, (if minI (b :: r) < a then minI (b :: r) else a) ≤ y
    by_cases c : minI (b :: r) < a
    · rw [if_pos c]
      refine ⟨List.mem_cons_of_mem _ h1, fun y hy => ?_⟩
      rcases List.mem_cons.mp hy with rfl | hy
      · omega
      · exact h2 y hy
    · rw [if_neg c]
      refine ⟨List.mem_cons_self, fun y hy => ?_⟩
      rcases List.mem_cons.mp hy with rfl | hy
      · omega
      · have := h2 y hy; omega
section
variable {K : PySem.W.Frag}
def dMaxL : List D → Option D
  | [.lst ds] => (ints? ds).bind fun ns => if ns = [] then none else some (.int (maxI ns))
  | _ => none
def dMinL : List D → Option D
  | [.lst ds] => (ints? ds).bind fun ns => if ns = [] then none else some (.int (minI ns))
  | _ => none
theorem cd_maxL : CallD K (rMax K) dMaxL := by
  intro vs ds d G H Q e hs gh k
  unfold dMaxL at e
  split at e
  · obtain ⟨ns, e1, e2⟩ := Option.bind_eq_some_iff.mp e
    split at e2
    · cases e2
    · rename_i hne
      cases e2
      have e3 := ints?_some e1
      subst e3
      cases hs with
      | cons h1 h2 =>
        cases h2
        cases h1 with
        | lst h3 h4 =>
          have e4 := h4.ints
          subst e4
          refine ⟨_, ns, rfl, SqL.of (gh _ _ h3), List.length_pos_iff.mpr hne, fun m hm hy => ?_⟩
          obtain ⟨q1, q2⟩ := maxI_spec ns hne
          have : m = maxI ns := Int.le_antisymm (q2 m hm) (hy _ q1)
          rw [this]
          exact k _ G H .refl (.int _)
  · cases e
theorem cd_minL : CallD K (rMin K) dMinL := by
  intro vs ds d G H Q e hs gh k
  unfold dMinL at e
  split at e
  · obtain ⟨ns, e1, e2⟩ := Option.bind_eq_some_iff.mp e
    split at e2
    · cases e2
    · rename_i hne
      cases e2
      have e3 := ints?_some e1
      subst e3
      cases hs with
      | cons h1 h2 =>
        cases h2
        cases h1 with
        | lst h3 h4 =>
          have e4 := h4.ints
          subst e4
          refine ⟨_, ns, rfl, SqL.of (gh _ _ h3), List.length_pos_iff.mpr hne, fun m hm hy => ?_⟩
          obtain ⟨q1, q2⟩ := minI_spec ns hne
          have : m = minI ns := Int.le_antisymm (hy _ q1) (q2 m hm)
          rw [this]
          exact k _ G H .refl (.int _)
  · cases e
end

/-! ### defs as facts -/
section
variable {K : PySem.W.Frag} {x qual : Str} {st : Stmt} {f T : Addr} {oc : Value} {od an : Option Addr} {osl : Array (Option Value)} {dV kV doc pm cdv ct : Value} {o : Obj} {its : List Value} {n : Nat} {dvs : List V}
theorem funD_mk (l : K.lookup f = some ⟨oc, od, .func (PySem.W.fnOf x qual (defArgs st) (defBody st) (defScope st) .none kV doc pm an cdv ct), osl⟩)
    (c : PySem.W.codeIn K cdv qual = true) (k : PySem.W.keepIn K (.ref f) = true) : FunD K x qual (defArgs st) (defBody st) (defScope st) [] [] f (PySem.W.fnOf x qual (defArgs st) (defBody st) (defScope st) .none kV doc pm an cdv ct) :=
  ⟨⟨oc, od, .none, kV, doc, pm, an, cdv, ct, osl, rfl, l, c, .inl ⟨rfl, rfl⟩, .inl rfl⟩, k⟩
theorem funD_mkD (l : K.lookup f = some ⟨oc, od, .func (PySem.W.fnOf x qual (defArgs st) (defBody st) (defScope st) (.ref T) kV doc pm an cdv ct), osl⟩)
    (c : PySem.W.codeIn K cdv qual = true) (k : PySem.W.keepIn K (.ref f) = true) (d : K.lookup T = some o) (e : o.data = .seq its.toArray n) (hd : dvs ≠ []) (hv : Vals dvs its) : FunD K x qual (defArgs st) (defBody st) (defScope st) dvs [] f (PySem.W.fnOf x qual (defArgs st) (defBody st) (defScope st) (.ref T) kV doc pm an cdv ct) :=
  ⟨⟨oc, od, .ref T, kV, doc, pm, an, cdv, ct, osl, rfl, l, c, .inr ⟨hd, T, o, its, n, rfl, d, e, hv⟩, .inl rfl⟩, k⟩
end

/-! ### == with texts apart -/
section
variable {K : PySem.W.Frag}
def dEqS : D → D → Option D
  | .str i, .str j => some (.bl (i == j))
  | _, _ => none
def dNeS : D → D → Option D
  | .str i, .str j => some (.bl (!(i == j)))
  | _, _ => none
theorem od_eqS : OpD K rEq dEqS := by
  intro x y a b d G H Q e dx dy gh k
  unfold dEqS at e
  split at e
  · cases e
    cases dx
    cases dy
    refine ⟨rfl, ?_⟩
    rw [dec_str]
    exact k _ G H .refl (.bl _)
  · cases e
theorem od_neS : OpD K rNe dNeS := by
  intro x y a b d G H Q e dx dy gh k
  unfold dNeS at e
  split at e
  · cases e
    cases dx
    cases dy
    refine ⟨rfl, ?_⟩
    rw [dec_str]
    exact k _ G H .refl (.bl _)
  · cases e
def dEqX (a b : D) : Option D := (dEqS a b).or (dEq a b)
def dNeX (a b : D) : Option D := (dNeS a b).or (dNe a b)
abbrev rEqX (K : PySem.W.Frag) : R2 := fun x y H Q => rEq x y H Q ∨ rEqD K x y H Q
abbrev rNeX (K : PySem.W.Frag) : R2 := fun x y H Q => rNe x y H Q ∨ rNeD K x y H Q
theorem op_eqX {X : Cx} (hu : X.A.units + 64 < cLine) : OpR X (compareOp .Eq) (rEqX X.K) := OpR.or (r := rEq) (r' := rEqD X.K) op_eq (op_eqD hu)
theorem op_neX {X : Cx} (hu : X.A.units + 64 < cLine) : OpR X (compareOp .NotEq) (rNeX X.K) := OpR.or (r := rNe) (r' := rNeD X.K) op_ne (op_neD hu)
theorem od_eqX : OpD K (rEqX K) dEqX := OpD.or (r := rEq) (r' := rEqD K) od_eqS od_eq
theorem od_neX : OpD K (rNeX K) dNeX := OpD.or (r := rNe) (r' := rNeD K) od_neS od_ne
theorem dEqX_int (i j : Int) : dEqX (.int i) (.int j) = some (.bl (i == j)) := rfl
theorem dNeX_int (i j : Int) : dNeX (.int i) (.int j) = some (.bl (!(i == j))) := rfl
theorem dEqX_str (i j : Str) : dEqX (.str i) (.str j) = some (.bl (i == j)) := rfl
end
end Q4


set_option Elab.async false
set_option linter.all false
set_option maxRecDepth 100000
set_option maxHeartbeats 4000000
/-! Part M: what a mirror comes to: from the end backwards, without a heap. -/
namespace Q4
open PySem PySem.Spec PyProof.Rows L2 Evl

def Rs.sat {α : Type} (r : Rs α) (Q : α → SS → Prop) : Prop := ∃ a S, r = .ok a S ∧ Q a S
section
variable {α β : Type} {Q : α → SS → Prop} {S : SS}
theorem sat_ok {a : α} (h : Q a S) : (Rs.ok a S).sat Q := ⟨a, S, rfl, h⟩
theorem sat_bind {R : β → SS → Prop} {r : Rs α} {k : α → SS → Rs β} (h : r.sat fun a S => (k a S).sat R) : (r.bind k).sat R := by
  obtain ⟨a, S, rfl, h⟩ := h
  exact h
theorem sat_lift {o : Option α} (h : ∃ a, o = some a ∧ Q a S) : (Rs.lift o S).sat Q := by
  obtain ⟨a, rfl, h⟩ := h
  exact ⟨a, S, rfl, h⟩
theorem sat_mono {R : α → SS → Prop} {r : Rs α} (h : r.sat Q) (k : ∀ a S, Q a S → R a S) : r.sat R := by
  obtain ⟨a, S, rfl, h⟩ := h
  exact ⟨a, S, rfl, k _ _ h⟩
end

/-! ### data -/
section
variable {Q : D → SS → Prop} {S : SS} {ma mb mc : M D} {ms : M (List D)} {f f' : D → D → Option D}
theorem s_var {i : Nat} {d : D} (h : S[i]? = some (.fz d)) (q : Q d S) : (mVar i S).sat Q := by
  unfold mVar
  rw [h]
  exact sat_ok q
theorem s_varO {i : Nat} {ds : List D} (h : S[i]? = some (.ow ds)) (q : Q (.lst ds) (S.set i (.fz (.lst ds)))) : (mVar i S).sat Q := by
  unfold mVar
  rw [h]
  exact sat_ok q
theorem s_C {d : D} (q : Q d S) : (mC d S).sat Q := sat_ok q
theorem s_bin (h : (ma S).sat fun a S1 => (mb S1).sat fun b S2 => ∃ d, f a b = some d ∧ Q d S2) : (mBin f ma mb S).sat Q := by
  unfold mBin
  refine sat_bind (sat_mono h fun a S1 h1 => sat_bind (sat_mono h1 fun b S2 h2 => sat_lift h2))
theorem s_un {f : D → Option D} (h : (ma S).sat fun a S1 => ∃ d, f a = some d ∧ Q d S1) : (mUn f ma S).sat Q := by
  unfold mUn
  exact sat_bind (sat_mono h fun a S1 h1 => sat_lift h1)
theorem s_tup (h : (ms S).sat fun ds S1 => Q (.tup ds) S1 ∧ ds.length ≤ cap) : (mTup ms S).sat Q := by
  unfold mTup
  refine sat_bind (sat_mono h fun a S1 h1 => ?_)
  first
    | exact sat_ok h1.1
    | (rw [if_pos h1.2]; exact sat_ok h1.1)
theorem s_fz (h : (ms S).sat fun ds S1 => Q (.lst ds) S1) : (mFz ms S).sat Q := by
  unfold mFz
  exact sat_bind (sat_mono h fun a S1 h1 => sat_ok h1)
theorem s_ixV {i : Nat} {d : D} (h : S[i]? = some (.fz d)) (hb : (mb S).sat fun k S1 => ∃ x, dIx d k = some x ∧ Q x S1) : (mIxV i mb S).sat Q := by
  unfold mIxV
  rw [h]
  exact sat_bind (sat_mono hb fun a S1 h1 => sat_lift h1)
theorem s_ixO {i : Nat} {ds : List D} (h : S[i]? = some (.ow ds)) (hb : (mb S).sat fun k S1 => S1[i]? = some (.ow ds) ∧ ∃ x, dIx (.lst ds) k = some x ∧ Q x S1) : (mIxV i mb S).sat Q := by
  unfold mIxV
  rw [h]
  refine sat_bind (sat_mono hb fun a S1 ⟨h0, h1⟩ => ?_)
  rw [h0]
  exact sat_lift h1
theorem s_len {i : Nat} {d : D} (h : S[i]? = some (.fz d)) (q : ∃ x, dLen [d] = some x ∧ Q x S) : (mLenV i S).sat Q := by
  unfold mLenV
  rw [h]
  exact sat_lift q
theorem s_lenO {i : Nat} {ds : List D} (h : S[i]? = some (.ow ds)) (q : Q (.int ds.length) S) : (mLenV i S).sat Q := by
  unfold mLenV
  rw [h]
  exact sat_ok q
theorem s_isi {T : String} (h : (ma S).sat fun d S1 => ∃ x, dIsi T d = some x ∧ Q x S1) : (mIsi T ma S).sat Q := by
  unfold mIsi
  exact sat_bind (sat_mono h fun a S1 h1 => sat_lift h1)
theorem s_notX (h : (ma S).sat fun d S1 => ∃ b, dTru d = some b ∧ Q (.bl (!b)) S1) : (mNotX ma S).sat Q := by
  unfold mNotX
  refine sat_bind (sat_mono h fun a S1 ⟨b, h1, h2⟩ => sat_lift ⟨_, by rw [h1]; rfl, h2⟩)
theorem s_notN {i : Nat} {d : D} (h : S[i]? = some (.fz d)) (q : ∃ b, dTru d = some b ∧ Q (.bl (!b)) S) : (mNotN i S).sat Q := by
  unfold mNotN
  rw [h]
  obtain ⟨b, h1, h2⟩ := q
  exact sat_lift ⟨_, by rw [h1]; rfl, h2⟩
theorem s_notO {i : Nat} {ds : List D} (h : S[i]? = some (.ow ds)) (q : Q (.bl ds.isEmpty) S) : (mNotN i S).sat Q := by
  unfold mNotN
  rw [h]
  exact sat_ok q
theorem s_andV (h : (ma S).sat fun d S1 => ∃ b, d = .bl b ∧ (b = true → (mb S1).sat Q) ∧ (b = false → Q (.bl false) S1)) : (mAndV ma mb S).sat Q := by
  unfold mAndV
  refine sat_bind (sat_mono h fun d S1 ⟨b, e, h1, h2⟩ => ?_)
  subst e
  cases b with
  | true => exact h1 rfl
  | false => exact sat_ok (h2 rfl)
theorem s_orV (h : (ma S).sat fun d S1 => ∃ b, d = .bl b ∧ (b = true → Q (.bl true) S1) ∧ (b = false → (mb S1).sat Q)) : (mOrV ma mb S).sat Q := by
  unfold mOrV
  refine sat_bind (sat_mono h fun d S1 ⟨b, e, h1, h2⟩ => ?_)
  subst e
  cases b with
  | true => exact sat_ok (h1 rfl)
  | false => exact h2 rfl
theorem s_if {c : M Bool} (h : (c S).sat fun k S1 => (k = true → (ma S1).sat Q) ∧ (k = false → (mb S1).sat Q)) : (mIf c ma mb S).sat Q := by
  unfold mIf
  refine sat_bind (sat_mono h fun k S1 ⟨h1, h2⟩ => ?_)
  cases k with
  | true => exact h1 rfl
  | false => exact h2 rfl
theorem s_chain (h : (ma S).sat fun a S1 => (mb S1).sat fun b S2 => ∃ k, f a b = some (.bl k) ∧ (k = false → Q (.bl false) S2) ∧ (k = true → (mc S2).sat fun c S3 => ∃ d, f' b c = some d ∧ Q d S3)) : (mChain f f' ma mb mc S).sat Q := by
  unfold mChain
  refine sat_bind (sat_mono h fun a S1 h1 => sat_bind (sat_mono h1 fun b S2 ⟨k, e, h2, h3⟩ => ?_))
  rw [e]
  cases k with
  | true =>
    first
      | exact sat_bind (sat_mono (h3 rfl) fun c S3 h4 => sat_lift h4)
      | (simp only; exact sat_bind (sat_mono (h3 rfl) fun c S3 h4 => sat_lift h4))
  | false => exact sat_ok (h2 rfl)
theorem s_call {g : List D → Option D} (h : (ms S).sat fun ds S1 => ∃ d, g ds = some d ∧ Q d S1) : (mCall g ms S).sat Q := by
  unfold mCall
  exact sat_bind (sat_mono h fun a S1 h1 => sat_lift h1)
theorem s_pop {i : Nat} {ds : List D} {d : D} (h : S[i]? = some (.ow ds)) (hd : ds[ds.length - 1]? = some d) (q : Q d (S.set i (.ow ds.dropLast))) : (mPop i S).sat Q := by
  unfold mPop
  rw [h]
  simp only
  rw [hd]
  exact sat_ok q
theorem s_slX {ml mh : M (Option Int)} (h : (ma S).sat fun a S1 => (ml S1).sat fun l S2 => (mh S2).sat fun u S3 => match a with
  | .tup ds => Q (.tup (cutD ds l u)) S3
  | .lst ds => Q (.lst (cutD ds l u)) S3
  | _ => False) : (mSlX ma ml mh S).sat Q := by
  unfold mSlX
  refine sat_bind (sat_mono h fun a S1 h1 => sat_bind (sat_mono h1 fun l S2 h2 => sat_bind (sat_mono h2 fun u S3 h3 => ?_)))
  cases a with
  | tup ds => exact sat_ok h3
  | lst ds => exact sat_ok h3
  | _ => exact h3.elim
/-- turned round -/
theorem s_rev (h : (ma S).sat fun a S1 => ∃ ds, a = .tup ds ∧ ds.length ≤ cap ∧ Q (.tup ds.reverse) S1) : (mStep ma mNoPart mNoPart (mPart (mUn dNeg (mC (.int 1)))) S).sat Q := by
  unfold mStep
  refine sat_bind (sat_mono h fun a S1 ⟨ds, e, hl, q⟩ => ?_)
  subst e
  refine sat_bind (sat_ok (sat_bind (sat_ok (sat_bind (sat_ok (a := (some (-1) : Option Int)) (S := S1) ?_)))))
  simp only
  rw [if_pos ⟨by decide, by rw [stepAt_rev]; exact hl⟩, wholeA_rev, if_neg (by decide), pickA_rev]
  exact sat_ok q
end
section
variable {S : SS} {ma mb : M D} {ms : M (List D)}
theorem s_nil {Q : List D → SS → Prop} (q : Q [] S) : (mNil S).sat Q := sat_ok q
theorem s_cons {Q : List D → SS → Prop} (h : (ma S).sat fun d S1 => (ms S1).sat fun ds S2 => Q (d :: ds) S2) : (mCons ma ms S).sat Q := by
  unfold mCons
  exact sat_bind (sat_mono h fun a S1 h1 => sat_bind (sat_mono h1 fun b S2 h2 => sat_ok h2))
theorem s_noPart {Q : Option Int → SS → Prop} (q : Q none S) : (mNoPart S).sat Q := sat_ok q
theorem s_part {Q : Option Int → SS → Prop} (h : (ma S).sat fun d S1 => ∃ i, d = .int i ∧ Q (some i) S1) : (mPart ma S).sat Q := by
  unfold mPart
  refine sat_bind (sat_mono h fun d S1 ⟨i, e, q⟩ => ?_)
  subst e
  exact sat_ok q
/-! ### fresh lists -/
theorem s_lst {Q : List D → SS → Prop} (h : (ms S).sat fun ds S1 => Q ds S1 ∧ ds.length ≤ cap) : (mLst ms S).sat Q := by
  unfold mLst
  refine sat_bind (sat_mono h fun a S1 h1 => ?_)
  first
    | exact sat_ok h1.1
    | (rw [if_pos h1.2]; exact sat_ok h1.1)
theorem s_callL {Q : List D → SS → Prop} {g : List D → Option (List D)} (h : (ms S).sat fun ds S1 => ∃ d, g ds = some d ∧ Q d S1) : (mCallL g ms S).sat Q := by
  unfold mCallL
  exact sat_bind (sat_mono h fun a S1 h1 => sat_lift h1)
theorem s_binL {Q : List D → SS → Prop} {f : D → D → Option (List D)} (h : (ma S).sat fun a S1 => (mb S1).sat fun b S2 => ∃ d, f a b = some d ∧ Q d S2) : (mBinL f ma mb S).sat Q := by
  unfold mBinL
  refine sat_bind (sat_mono h fun a S1 h1 => sat_bind (sat_mono h1 fun b S2 h2 => sat_lift h2))
theorem s_items {Q : List D → SS → Prop} (h : (ma S).sat fun d S1 => ∃ ds, (d = .lst ds ∨ d = .tup ds ∨ ∃ ns, d = .scr ns ∧ ds = ns.map .int) ∧ Q ds S1) : (mItems ma S).sat Q := by
  unfold mItems
  refine sat_bind (sat_mono h fun d S1 ⟨ds, e, q⟩ => ?_)
  rcases e with rfl | rfl | ⟨ns, rfl, rfl⟩
  · exact sat_ok q
  · exact sat_ok q
  · exact sat_ok q
theorem s_enum {Q : List D → SS → Prop} (h : (ma S).sat fun d S1 => ∃ ds, (d = .lst ds ∨ d = .tup ds) ∧ Q (enumD 0 ds) S1) : (mEnum ma S).sat Q := by
  unfold mEnum
  refine sat_bind (sat_mono h fun d S1 ⟨ds, e, q⟩ => ?_)
  rcases e with rfl | rfl
  · exact sat_ok q
  · exact sat_ok q
theorem s_zip {Q : List D → SS → Prop} (h : (ms S).sat fun d S1 => ∃ xs ys, (d = [.lst xs, .lst ys] ∨ d = [.tup xs, .tup ys]) ∧ Q (zipD xs ys) S1) : (mZip ms S).sat Q := by
  unfold mZip
  refine sat_bind (sat_mono h fun d S1 ⟨xs, ys, e, q⟩ => ?_)
  rcases e with rfl | rfl
  · exact sat_ok q
  · exact sat_ok q
theorem s_rng1 {Q : List D → SS → Prop} (h : (ms S).sat fun ds S1 => ∃ n : Nat, ds = [.int n] ∧ n < 2 ^ 62 ∧ Q (rngD 0 1 n) S1) : (mRng1 ms S).sat Q := by
  unfold mRng1
  refine sat_bind (sat_mono h fun d S1 ⟨n, e, hn, q⟩ => ?_)
  subst e
  simp only
  rw [if_pos (by omega)]
  refine sat_ok ?_
  have : ((n : Int)).toNat = n := Int.toNat_natCast n
  first
    | (rw [this]; exact q)
    | exact q
theorem s_rng2 {Q : List D → SS → Prop} (h : (ms S).sat fun ds S1 => ∃ i j : Int, ds = [.int i, .int j] ∧ (-(2 ^ 62) ≤ i ∧ i < 2 ^ 62) ∧ (-(2 ^ 62) ≤ j ∧ j < 2 ^ 62) ∧ Q (rngD i 1 (j - i).toNat) S1) : (mRng2 ms S).sat Q := by
  unfold mRng2
  refine sat_bind (sat_mono h fun d S1 ⟨i, j, e, h1, h2, q⟩ => ?_)
  subst e
  simp only
  rw [if_pos (by omega)]
  exact sat_ok q
end
section
variable {S : SS} {ma mb : M D} {na nb : M Bool} {Q : Bool → SS → Prop}
theorem s_yes (q : Q true S) : (mYes S).sat Q := sat_ok q
theorem s_test (h : (ma S).sat fun d S1 => ∃ b, d = .bl b ∧ Q b S1) : (mTest ma S).sat Q := by
  unfold mTest
  refine sat_bind (sat_mono h fun d S1 ⟨b, e, q⟩ => ?_)
  subst e
  exact sat_ok q
theorem s_tru (h : (ma S).sat fun d S1 => ∃ b, dTru d = some b ∧ Q b S1) : (mTru ma S).sat Q := by
  unfold mTru
  exact sat_bind (sat_mono h fun d S1 q => sat_lift q)
theorem s_truV {i : Nat} {d : D} (h : S[i]? = some (.fz d)) (q : ∃ b, dTru d = some b ∧ Q b S) : (mTruV i S).sat Q := by
  unfold mTruV
  rw [h]
  exact sat_lift q
theorem s_truO {i : Nat} {ds : List D} (h : S[i]? = some (.ow ds)) (q : Q (!ds.isEmpty) S) : (mTruV i S).sat Q := by
  unfold mTruV
  rw [h]
  exact sat_ok q
theorem s_notT (h : (na S).sat fun b S1 => Q (!b) S1) : (mNotT na S).sat Q := by
  unfold mNotT
  exact sat_bind (sat_mono h fun d S1 q => sat_ok q)
theorem s_and (h : (na S).sat fun b S1 => (b = true → (nb S1).sat Q) ∧ (b = false → Q false S1)) : (mAnd na nb S).sat Q := by
  unfold mAnd
  refine sat_bind (sat_mono h fun b S1 ⟨h1, h2⟩ => ?_)
  cases b with
  | true => exact h1 rfl
  | false => exact sat_ok (h2 rfl)
theorem s_or (h : (na S).sat fun b S1 => (b = true → Q true S1) ∧ (b = false → (nb S1).sat Q)) : (mOr na nb S).sat Q := by
  unfold mOr
  refine sat_bind (sat_mono h fun b S1 ⟨h1, h2⟩ => ?_)
  cases b with
  | true => exact sat_ok (h1 rfl)
  | false => exact h2 rfl
end

/-! ### statements -/
section
variable {S : SS} {m ms a b : M Fl} {ma mi me : M D} {ml : M (List D)} {c : M Bool} {Q : Fl → SS → Prop} {g : GF}
theorem s_nx (q : Q .nx S) : (mNx S).sat Q := sat_ok q
theorem s_bk (q : Q .bk S) : (mBk S).sat Q := sat_ok q
theorem s_ct (q : Q .ct S) : (mCt S).sat Q := sat_ok q
/-- one behind another; where the first one leaves, the rest is not run -/
theorem s_seqr (h : (m S).sat fun f S1 => match f with
  | .nx => (ms S1).sat Q
  | f => Q f S1) : (mSeq m ms S).sat Q := by
  unfold mSeq
  refine sat_bind (sat_mono h fun f S1 h1 => ?_)
  cases f with
  | nx => exact h1
  | _ => exact sat_ok h1
theorem s_seq (h : (m S).sat fun f S1 => f = .nx ∧ (ms S1).sat Q) : (mSeq m ms S).sat Q := s_seqr (sat_mono h fun f S1 ⟨e, q⟩ => by subst e; exact q)
/-- the last one -/
theorem s_last (h : (m S).sat Q) : (mSeq m mNx S).sat Q := s_seqr (sat_mono h fun f S1 q => by
  cases f with
  | nx => exact sat_ok q
  | _ => exact q)
theorem s_ret (h : (ma S).sat fun d S1 => Q (.rt d) S1) : (mRet ma S).sat Q := by
  unfold mRet
  exact sat_bind (sat_mono h fun d S1 q => sat_ok q)
theorem s_retL (h : (ml S).sat fun d S1 => Q (.rl d) S1) : (mRetL ml S).sat Q := by
  unfold mRetL
  exact sat_bind (sat_mono h fun d S1 q => sat_ok q)
theorem s_retN (q : Q (.rt .non) S) : (mRetN S).sat Q := sat_ok q
theorem s_retV {i : Nat} {d : D} (h : S[i]? = some (.fz d)) (q : Q (.rt d) S) : (mRetV i S).sat Q := by
  unfold mRetV
  rw [h]
  exact sat_ok q
theorem s_retO {i : Nat} {ds : List D} (h : S[i]? = some (.ow ds)) (q : Q (.rl ds) (S.set i .no)) : (mRetV i S).sat Q := by
  unfold mRetV
  rw [h]
  exact sat_ok q
theorem s_drop (h : (ma S).sat fun _ S1 => Q .nx S1) : (mDrop ma S).sat Q := by
  unfold mDrop
  exact sat_bind (sat_mono h fun d S1 q => sat_ok q)
theorem s_ifS (h : (c S).sat fun k S1 => (k = true → (a S1).sat Q) ∧ (k = false → (b S1).sat Q)) : (mIfS c a b S).sat Q := by
  unfold mIfS
  refine sat_bind (sat_mono h fun k S1 ⟨h1, h2⟩ => ?_)
  cases k with
  | true => exact h1 rfl
  | false => exact h2 rfl
theorem s_asg (h : (ma S).sat fun d S1 => ∃ S2, g d S1 = some S2 ∧ Q .nx S2) : (mAsg ma g S).sat Q := by
  unfold mAsg
  refine sat_bind (sat_mono h fun d S1 ⟨S2, e, q⟩ => ?_)
  rw [e]
  exact sat_ok q
theorem blt_lt {i n : Nat} (h : Nat.blt i n = true) : i < n := Nat.le_of_ble_eq_true h
theorem gN_eq {i : Nat} {d : D} {S : SS} (h : Nat.blt i S.length = true) : gN i d S = some (S.set i (.fz d)) := by
  unfold gN
  rw [if_pos (blt_lt h)]
theorem s_asgN {i : Nat} (h : (ma S).sat fun d S1 => Nat.blt i S1.length = true ∧ Q .nx (S1.set i (.fz d))) : (mAsg ma (gN i) S).sat Q :=
  s_asg (sat_mono h fun d S1 ⟨h1, q⟩ => ⟨_, gN_eq h1, q⟩)
theorem s_asgL {i : Nat} (h : (ml S).sat fun d S1 => Nat.blt i S1.length = true ∧ Q .nx (S1.set i (.ow d))) : (mAsgL i ml S).sat Q := by
  unfold mAsgL
  refine sat_bind (sat_mono h fun d S1 ⟨h1, q⟩ => ?_)
  rw [if_pos (blt_lt h1)]
  exact sat_ok q
theorem s_par {i j : Nat} (h : (ml S).sat fun ds S1 => ∃ d e, ds = [d, e] ∧ (Nat.blt i S1.length && Nat.blt j S1.length) = true ∧ Q .nx ((S1.set i (.fz d)).set j (.fz e))) : (mPar i j ml S).sat Q := by
  unfold mPar
  refine sat_bind (sat_mono h fun ds S1 ⟨d, e, h0, h1, q⟩ => ?_)
  subst h0
  have h2 := Bool.and_eq_true_iff.mp h1
  simp only
  rw [if_pos ⟨blt_lt h2.1, blt_lt h2.2⟩]
  exact sat_ok q
theorem s_aug {i : Nat} {f : D → D → Option D} {x : D} (h0 : S[i]? = some (.fz x)) (h : (ma S).sat fun b S1 => ∃ d, f x b = some d ∧ Nat.blt i S1.length = true ∧ Q .nx (S1.set i (.fz d))) : (mAug i f ma S).sat Q := by
  unfold mAug
  rw [h0]
  refine sat_bind (sat_mono h fun b S1 ⟨d, e, h1, q⟩ => ?_)
  rw [e]
  simp only
  rw [if_pos (blt_lt h1)]
  exact sat_ok q
theorem s_app {k : Nat} {ds : List D} (h0 : S[k]? = some (.ow ds)) (h : (me S).sat fun d S1 => ∃ es, S1[k]? = some (.ow es) ∧ es.length < cap ∧ Q .nx (S1.set k (.ow (es ++ [d])))) : (mApp k me S).sat Q := by
  unfold mApp
  rw [h0]
  refine sat_bind (sat_mono h fun d S1 ⟨es, e, hl, q⟩ => ?_)
  rw [e]
  simp only
  rw [if_pos hl]
  exact sat_ok q
theorem s_setIx {k : Nat} (h : (me S).sat fun d S1 => (∃ ds, S1[k]? = some (.ow ds)) ∧ (mi S1).sat fun i S2 => ∃ ds z j, S2[k]? = some (.ow ds) ∧ i = .int z ∧ ixN ds.length z = some j ∧ Q .nx (S2.set k (.ow (ds.set j d)))) : (mSetIx k mi me S).sat Q := by
  unfold mSetIx
  refine sat_bind (sat_mono h fun d S1 ⟨⟨ds0, e0⟩, h1⟩ => ?_)
  rw [e0]
  simp only
  refine sat_bind (sat_mono h1 fun i S2 ⟨ds, z, j, e1, e2, e3, q⟩ => ?_)
  subst e2
  rw [e1]
  simp only
  rw [e3]
  exact sat_ok q
theorem s_augIx {k : Nat} {f : D → D → Option D} {ds0 : List D} (h0 : S[k]? = some (.ow ds0)) (h : (mi S).sat fun i S1 => ∃ ds z a, S1[k]? = some (.ow ds) ∧ i = .int z ∧ atI ds z = some a ∧ (me S1).sat fun b S2 => ∃ d es j, f a b = some d ∧ S2[k]? = some (.ow es) ∧ ixN es.length z = some j ∧ Q .nx (S2.set k (.ow (es.set j d)))) : (mAugIx k f mi me S).sat Q := by
  unfold mAugIx
  rw [h0]
  simp only
  refine sat_bind (sat_mono h fun i S1 ⟨ds, z, a, e1, e2, e3, h1⟩ => ?_)
  subst e2
  rw [e1]
  simp only
  rw [e3]
  simp only
  refine sat_bind (sat_mono h1 fun b S2 ⟨d, es, j, e4, e5, e6, q⟩ => ?_)
  rw [e4, e5]
  simp only
  rw [e6]
  exact sat_ok q
/-- for: what stands before the i-th turn -/
theorem for_loop {mb : M Fl} (P : Nat → SS → Prop) (Q : Fl → SS → Prop) : ∀ (ds : List D) (n : Nat) (S : SS), (∀ i d S, ds[i]? = some d → P (n + i) S → ∃ S1, g d S = some S1 ∧ (mb S1).sat fun f S2 => match f with
    | .nx => P (n + i + 1) S2
    | .ct => P (n + i + 1) S2
    | .bk => Q .nx S2
    | f => Q f S2) → (∀ S, P (n + ds.length) S → Q .nx S) → P n S → (forLoop g mb ds S).sat Q
  | [], n, S, _, hq, h => sat_ok (hq S h)
  | d :: ds, n, S, hs, hq, h => by
    obtain ⟨S1, e, h1⟩ := hs 0 d S rfl h
    rw [forLoop_cons, e]
    refine sat_bind (sat_mono h1 fun f S2 h2 => ?_)
    have go : P (n + 1) S2 → (forLoop g mb ds S2).sat Q := fun p => for_loop P Q ds (n + 1) S2 (fun i d S hi hp => by
      have q := hs (i + 1) d S hi (by rw [show n + (i + 1) = n + 1 + i by omega]; exact hp)
      rw [show n + (i + 1) + 1 = n + 1 + i + 1 by omega] at q
      exact q) (fun S p => hq S (by rw [List.length_cons, show n + (ds.length + 1) = n + 1 + ds.length by omega]; exact p)) p
    cases f with
    | nx => exact go h2
    | ct => exact go h2
    | bk => exact sat_ok h2
    | rt d => exact sat_ok h2
    | rl d => exact sat_ok h2
theorem s_for {mb : M Fl} (P : List D → Nat → SS → Prop) (h : (ml S).sat fun ds S1 => P ds 0 S1 ∧ (∀ i d S, ds[i]? = some d → P ds i S → ∃ S1, g d S = some S1 ∧ (mb S1).sat fun f S2 => match f with
    | .nx => P ds (i + 1) S2
    | .ct => P ds (i + 1) S2
    | .bk => Q .nx S2
    | f => Q f S2) ∧ ∀ S, P ds ds.length S → Q .nx S) : (mFor ml g mb S).sat Q := by
  unfold mFor
  refine sat_bind (sat_mono h fun ds S1 ⟨h0, h1, h2⟩ => ?_)
  refine for_loop (P ds) Q ds 0 S1 (fun i d S hi hp => ?_) (fun S p => h2 S (by rw [Nat.zero_add] at p; exact p)) h0
  rw [Nat.zero_add] at hp ⊢
  exact h1 i d S hi hp
/-- while: n falls from turn to turn -/
theorem s_while {mb : M Fl} (P : Nat → SS → Prop) (hs : ∀ n S, P n S → (c S).sat fun k S1 => (k = true → (mb S1).sat fun f S2 => match f with
    | .nx => ∃ m, m < n ∧ P m S2
    | .ct => ∃ m, m < n ∧ P m S2
    | .bk => Q .nx S2
    | f => Q f S2) ∧ (k = false → Q .nx S1)) : ∀ n S, P n S → (mWhile c mb S).sat Q := fun n => by
  induction n using Nat.strongRecOn with
  | _ n ih =>
    intro S h
    rw [mWhile_eq]
    refine sat_bind (sat_mono (hs n S h) fun k S1 ⟨h1, h2⟩ => ?_)
    cases k with
    | false => exact sat_ok (h2 rfl)
    | true =>
      rw [if_pos rfl]
      refine sat_bind (sat_mono (h1 rfl) fun f S2 h3 => ?_)
      cases f with
      | nx =>
        obtain ⟨m, hm, hp⟩ := h3
        exact ih m hm S2 hp
      | ct =>
        obtain ⟨m, hm, hp⟩ := h3
        exact ih m hm S2 hp
      | bk => exact sat_ok h3
      | rt d => exact sat_ok h3
      | rl d => exact sat_ok h3
end

/-! ### comprehensions -/
section
variable {vs : List Nat} {g : GF} {mt : M Bool} {me : M D} {mi : M (List D)}
theorem noE_sat {α : Type} {r : Rs α} {Q : α → SS → Prop} (h : r.sat Q) : (noE r).sat Q := by
  obtain ⟨a, S, rfl, q⟩ := h
  exact ⟨a, S, rfl, q⟩
theorem comp_loop (P : Nat → List D → SS → Prop) : ∀ (ds : List D) (n : Nat) (acc : List D) (S : SS), (∀ i d acc S, ds[i]? = some d → P (n + i) acc S → ∃ S1, g d (wS vs S) = some S1 ∧ (mt S1).sat fun b S2 =>
      (b = true → (me S2).sat fun y S3 => acc.length < cap ∧ P (n + i + 1) (acc ++ [y]) (unS vs S S3)) ∧ (b = false → P (n + i + 1) acc (unS vs S S2))) → P n acc S →
    (compLoop vs g mt me ds acc S).sat fun r S' => P (n + ds.length) r S'
  | [], n, acc, S, _, h => sat_ok h
  | d :: ds, n, acc, S, hs, h => by
    obtain ⟨S1, e, h1⟩ := hs 0 d acc S rfl h
    rw [compLoop_cons, e]
    have go : ∀ acc' S', P (n + 1) acc' S' → (compLoop vs g mt me ds acc' S').sat fun r S' => P (n + (d :: ds).length) r S' := fun acc' S' p => by
      have q := comp_loop P ds (n + 1) acc' S' (fun i d acc S hi hp => by
        have q := hs (i + 1) d acc S hi (by rw [show n + (i + 1) = n + 1 + i by omega]; exact hp)
        rw [show n + (i + 1) + 1 = n + 1 + i + 1 by omega] at q
        exact q) p
      rw [List.length_cons, show n + (ds.length + 1) = n + 1 + ds.length by omega]
      exact q
    refine sat_bind (sat_mono (noE_sat h1) fun b S2 ⟨h2, h3⟩ => ?_)
    cases b with
    | true =>
      rw [if_pos rfl]
      refine sat_bind (sat_mono (noE_sat (h2 rfl)) fun y S3 ⟨hl, hp⟩ => ?_)
      rw [if_pos hl]
      exact go _ _ hp
    | false =>
      rw [if_neg (by decide)]
      exact go _ _ (h3 rfl)
theorem s_comp {Q : List D → SS → Prop} {S : SS} (P : List D → Nat → List D → SS → Prop) (h : (mi S).sat fun ds S1 => okOwn vs S1 = true ∧ P ds 0 [] S1 ∧ (∀ i d acc S, ds[i]? = some d → P ds i acc S → ∃ S1, g d (wS vs S) = some S1 ∧ (mt S1).sat fun b S2 =>
      (b = true → (me S2).sat fun y S3 => acc.length < cap ∧ P ds (i + 1) (acc ++ [y]) (unS vs S S3)) ∧ (b = false → P ds (i + 1) acc (unS vs S S2))) ∧ ∀ r S', P ds ds.length r S' → Q r S') : (mComp mi vs g mt me S).sat Q := by
  unfold mComp
  refine sat_bind (sat_mono h fun ds S1 ⟨h0, h1, h2, h3⟩ => ?_)
  rw [if_pos h0]
  refine sat_mono (comp_loop (P ds) ds 0 [] S1 (fun i d acc S hi hp => ?_) h1) fun r S' p => h3 r S' (by rw [Nat.zero_add] at p; exact p)
  rw [Nat.zero_add] at hp ⊢
  exact h2 i d acc S hi hp
/-- item by item, the state as it was -/
theorem s_map {Q : List D → SS → Prop} {S : SS} (F : D → D) (h : (mi S).sat fun ds S1 => okOwn vs S1 = true ∧ ds.length ≤ cap ∧ (∀ d ∈ ds, ∃ S2, g d (wS vs S1) = some S2 ∧ (mt S2).sat fun b S3 => b = true ∧ (me S3).sat fun y S4 => y = F d ∧ unS vs S1 S4 = S1) ∧ Q (ds.map F) S1) : (mComp mi vs g mt me S).sat Q := by
  refine s_comp (fun ds i acc S' => ∃ S1, okOwn vs S1 = true ∧ ds.length ≤ cap ∧ (∀ d ∈ ds, ∃ S2, g d (wS vs S1) = some S2 ∧ (mt S2).sat fun b S3 => b = true ∧ (me S3).sat fun y S4 => y = F d ∧ unS vs S1 S4 = S1) ∧ Q (ds.map F) S1 ∧ S' = S1 ∧ acc = (ds.take i).map F ∧ i ≤ ds.length) ?_
  refine sat_mono h fun ds S1 ⟨h0, h1, h2, h3⟩ => ⟨h0, ⟨S1, h0, h1, h2, h3, rfl, by simp, Nat.zero_le _⟩, fun i d acc S hi hp => ?_, fun r S' hp => ?_⟩
  · obtain ⟨S1, g0, g1, g2, g3, rfl, rfl, g4⟩ := hp
    have hl : i < ds.length := (List.getElem?_eq_some_iff.mp hi).1
    obtain ⟨S2, e2, p2⟩ := g2 d (List.mem_of_getElem? hi)
    refine ⟨S2, e2, sat_mono p2 fun b S3 ⟨eb, p3⟩ => ⟨fun _ => sat_mono p3 fun y S4 ⟨ey, e4⟩ => ⟨?_, _, g0, g1, g2, g3, e4, ?_, hl⟩, fun z => by rw [eb] at z; cases z⟩⟩
    · rw [List.length_map, List.length_take]
      omega
    · rw [List.take_add_one, hi, List.map_append, ey]
      rfl
  · obtain ⟨S1, g0, g1, g2, g3, rfl, rfl, g4⟩ := hp
    rw [List.take_length]
    exact g3
/-- .. where a test says yes -/
theorem s_filter {Q : List D → SS → Prop} {S : SS} (F : D → D) (T : D → Bool) (h : (mi S).sat fun ds S1 => okOwn vs S1 = true ∧ ds.length ≤ cap ∧ (∀ d ∈ ds, ∃ S2, g d (wS vs S1) = some S2 ∧ (mt S2).sat fun b S3 => b = T d ∧ (T d = true → (me S3).sat fun y S4 => y = F d ∧ unS vs S1 S4 = S1) ∧ (T d = false → unS vs S1 S3 = S1)) ∧ Q ((ds.filter T).map F) S1) : (mComp mi vs g mt me S).sat Q := by
  refine s_comp (fun ds i acc S' => ∃ S1, okOwn vs S1 = true ∧ ds.length ≤ cap ∧ (∀ d ∈ ds, ∃ S2, g d (wS vs S1) = some S2 ∧ (mt S2).sat fun b S3 => b = T d ∧ (T d = true → (me S3).sat fun y S4 => y = F d ∧ unS vs S1 S4 = S1) ∧ (T d = false → unS vs S1 S3 = S1)) ∧ Q ((ds.filter T).map F) S1 ∧ S' = S1 ∧ acc = ((ds.take i).filter T).map F ∧ i ≤ ds.length) ?_
  refine sat_mono h fun ds S1 ⟨h0, h1, h2, h3⟩ => ⟨h0, ⟨S1, h0, h1, h2, h3, rfl, by simp, Nat.zero_le _⟩, fun i d acc S hi hp => ?_, fun r S' hp => ?_⟩
  · obtain ⟨S1, g0, g1, g2, g3, rfl, rfl, g4⟩ := hp
    have hl : i < ds.length := (List.getElem?_eq_some_iff.mp hi).1
    obtain ⟨S2, e2, p2⟩ := g2 d (List.mem_of_getElem? hi)
    have tk : ds.take (i + 1) = ds.take i ++ [d] := by rw [List.take_add_one, hi]; rfl
    refine ⟨S2, e2, sat_mono p2 fun b S3 ⟨eb, p3, p4⟩ => ⟨fun z => sat_mono (p3 (by rw [← eb]; exact z)) fun y S4 ⟨ey, e4⟩ => ⟨?_, _, g0, g1, g2, g3, e4, ?_, hl⟩, fun z => ⟨_, g0, g1, g2, g3, p4 (by rw [← eb]; exact z), ?_, hl⟩⟩⟩
    · rw [List.length_map]
      refine Nat.lt_of_le_of_lt (List.length_filter_le _ _) ?_
      rw [List.length_take]
      omega
    · have ht : T d = true := by rw [← eb]; exact z
      rw [tk, List.filter_append, List.map_append, ey]
      simp [ht]
    · have ht : T d = false := by rw [← eb]; exact z
      rw [tk, List.filter_append, List.map_append]
      simp [ht]
  · obtain ⟨S1, g0, g1, g2, g3, rfl, rfl, g4⟩ := hp
    rw [List.take_length]
    exact g3
end

/-! ### defs -/
section
variable {n : Nat} {mp : List Nat} {body : M Fl} {A S : SS} {fm : FM} {dds : List D} {ms : M (List D)}
theorem s_fn {Q : Ret → SS → Prop} (h : (body (A ++ List.replicate (n - A.length) .no)).sat fun f S' => mp.all (owAt (S'.take A.length)) = true ∧ match f with
    | .rt d => Q (.v d) (S'.take A.length)
    | .rl ds => Q (.l ds) (S'.take A.length)
    | .nx => Q (.v .non) (S'.take A.length)
    | _ => False) : (fnM n mp body A).sat Q := by
  obtain ⟨f, S', e, h1, h2⟩ := h
  unfold fnM
  rw [e]
  simp only
  rw [if_pos h1]
  cases f with
  | rt d => exact sat_ok h2
  | rl d => exact sat_ok h2
  | nx => exact sat_ok h2
  | bk => exact h2.elim
  | ct => exact h2.elim
/-- the value that a def tells of frozen arguments -/
def Ap (fm : FM) (ds : List D) (d : D) : Prop := (fm (ds.map .fz)).sat fun r _ => match r with
  | .v x => x = d
  | .l es => D.lst es = d
def ApL (fm : FM) (ds es : List D) : Prop := (fm (ds.map .fz)).sat fun r _ => r = .l es
theorem ApL.ap {ds es : List D} (h : ApL fm ds es) : Ap fm ds (.lst es) := sat_mono h fun r _ e => by subst e; rfl
theorem ap_fn {ds : List D} {d : D} (h : (body (ds.map .fz ++ List.replicate (n - ds.length) .no)).sat fun f _ => f = .rt d) : Ap (fnM n [] body) ds d := by
  refine s_fn (sat_mono (r := body (ds.map .fz ++ List.replicate (n - (ds.map SV.fz).length) .no)) (by rw [List.length_map]; exact h) fun f S' e => ?_)
  subst e
  exact ⟨rfl, rfl⟩
theorem apL_fn {ds es : List D} (h : (body (ds.map .fz ++ List.replicate (n - ds.length) .no)).sat fun f _ => f = .rl es) : ApL (fnM n [] body) ds es := by
  refine s_fn (sat_mono (r := body (ds.map .fz ++ List.replicate (n - (ds.map SV.fz).length) .no)) (by rw [List.length_map]; exact h) fun f S' e => ?_)
  subst e
  exact ⟨rfl, rfl⟩
theorem s_ap {Q : D → SS → Prop} (h : (ms S).sat fun ds S1 => ∃ d, Ap fm (ds ++ dds) d ∧ Q d S1) : (mFn fm dds ms S).sat Q := by
  unfold mFn
  refine sat_bind (sat_mono h fun ds S1 ⟨d, ⟨r, A', e, e2⟩, q⟩ => ?_)
  rw [e]
  cases r with
  | v x =>
    have e3 : x = d := e2
    subst e3
    exact sat_ok q
  | l es =>
    have e3 : D.lst es = d := e2
    subst e3
    exact sat_ok q
theorem s_apL {Q : List D → SS → Prop} (h : (ms S).sat fun ds S1 => ∃ d, ApL fm (ds ++ dds) d ∧ Q d S1) : (mFnL fm dds ms S).sat Q := by
  unfold mFnL
  refine sat_bind (sat_mono h fun ds S1 ⟨d, ⟨r, A', e, e2⟩, q⟩ => ?_)
  subst e2
  rw [e]
  exact sat_ok q
theorem s_apM {Q : D → SS → Prop} {k : Nat} {es0 : List D} (h0 : S[k]? = some (.ow es0)) (h : (ms S).sat fun ds S1 => ∃ es, S1[k]? = some (.ow es) ∧ (fm (.ow es :: ds.map .fz)).sat fun r A' => ∃ es', (A'[0]? : Option SV) = some (.ow es') ∧ match r with
    | .v d => Q d (S1.set k (.ow es'))
    | .l us => Q (.lst us) (S1.set k (.ow es'))) : (mFnM k fm ms S).sat Q := by
  unfold mFnM
  rw [h0]
  refine sat_bind (sat_mono h fun ds S1 ⟨es, e1, r, A', e2, es', e3, q⟩ => ?_)
  rw [e1]
  simp only
  rw [e2]
  cases r with
  | v d =>
    simp only
    rw [e3]
    exact sat_ok q
  | l us =>
    simp only
    rw [e3]
    exact sat_ok q
end

/-! ### operators at ints -/
section
variable {Q : D → Prop} {i j : Int}
theorem o_add (q : Q (.int (i + j))) : ∃ d, dAddX (.int i) (.int j) = some d ∧ Q d := ⟨_, rfl, q⟩
theorem o_addI (q : Q (.int (i + j))) : ∃ d, dAddI (.int i) (.int j) = some d ∧ Q d := ⟨_, rfl, q⟩
theorem o_sub (q : Q (.int (i - j))) : ∃ d, dSub (.int i) (.int j) = some d ∧ Q d := ⟨_, rfl, q⟩
theorem o_mul (h : i.natAbs.log2 + j.natAbs.log2 < 1000000) (q : Q (.int (i * j))) : ∃ d, dMulX (.int i) (.int j) = some d ∧ Q d := ⟨_, by rw [dMulX_int, if_pos h], q⟩
theorem o_mod (h : 0 < j) (q : Q (.int (i % j))) : ∃ d, dMod (.int i) (.int j) = some d ∧ Q d := ⟨_, by unfold dMod; simp only; rw [if_pos h], q⟩
theorem o_fdiv (h : 0 < j ∧ j.natAbs.log2 < 9000) (q : Q (.int (i / j))) : ∃ d, dFdiv (.int i) (.int j) = some d ∧ Q d := ⟨_, by unfold dFdiv; simp only; rw [if_pos h], q⟩
theorem o_pow (h : 0 ≤ j ∧ j ≤ 1000 ∧ i.natAbs < 2 ^ 64) (q : Q (.int (i ^ j.toNat))) : ∃ d, dPow (.int i) (.int j) = some d ∧ Q d := ⟨_, by unfold dPow; simp only; rw [if_pos h], q⟩
theorem o_lt (q : Q (.bl (decide (i < j)))) : ∃ d, dLt (.int i) (.int j) = some d ∧ Q d := ⟨_, rfl, q⟩
theorem o_le (q : Q (.bl (decide (i ≤ j)))) : ∃ d, dLe (.int i) (.int j) = some d ∧ Q d := ⟨_, rfl, q⟩
theorem o_gt (q : Q (.bl (decide (j < i)))) : ∃ d, dGt (.int i) (.int j) = some d ∧ Q d := ⟨_, rfl, q⟩
theorem o_ge (q : Q (.bl (decide (j ≤ i)))) : ∃ d, dGe (.int i) (.int j) = some d ∧ Q d := ⟨_, rfl, q⟩
theorem o_eq (q : Q (.bl (i == j))) : ∃ d, dEqX (.int i) (.int j) = some d ∧ Q d := ⟨_, rfl, q⟩
theorem o_ne (q : Q (.bl (!(i == j)))) : ∃ d, dNeX (.int i) (.int j) = some d ∧ Q d := ⟨_, rfl, q⟩
theorem o_neg (q : Q (.int (-i))) : ∃ d, dNeg (.int i) = some d ∧ Q d := ⟨_, rfl, q⟩
theorem o_int1 (q : Q (.int i)) : ∃ d, dInt1 [.int i] = some d ∧ Q d := ⟨_, rfl, q⟩
theorem o_int1b {b : Bool} (q : Q (.int (if b then 1 else 0))) : ∃ d, dInt1 [.bl b] = some d ∧ Q d := ⟨_, rfl, q⟩
theorem o_abs (q : Q (.int (if i < 0 then -i else i))) : ∃ d, dAbs [.int i] = some d ∧ Q d := ⟨_, rfl, q⟩
theorem o_tupleL {ds : List D} (q : Q (.tup ds)) : ∃ d, dTuple [.lst ds] = some d ∧ Q d := ⟨_, rfl, q⟩
theorem o_tupleT {ds : List D} (q : Q (.tup ds)) : ∃ d, dTuple [.tup ds] = some d ∧ Q d := ⟨_, rfl, q⟩
theorem o_lenT {ds : List D} (q : Q (.int ds.length)) : ∃ d, dLen [.tup ds] = some d ∧ Q d := ⟨_, rfl, q⟩
theorem o_lenL {ds : List D} (q : Q (.int ds.length)) : ∃ d, dLen [.lst ds] = some d ∧ Q d := ⟨_, rfl, q⟩
end
theorem log2_small {i : Int} {k : Nat} (h : i.natAbs < 2 ^ (k + 1)) : i.natAbs.log2 ≤ k := Nat.lt_succ_iff.mp (PySem.Flt.log2_lt_of (Nat.succ_pos k) h)
theorem mul64 {i j : Int} (hi : i.natAbs < 18446744073709551616) (hj : j.natAbs < 18446744073709551616) : i.natAbs.log2 + j.natAbs.log2 < 1000000 := by
  have h1 : i.natAbs.log2 ≤ 63 := log2_small (by omega)
  have h2 : j.natAbs.log2 ≤ 63 := log2_small (by omega)
  omega
end Q4


set_option Elab.async false
set_option linter.all false
/-! Part L: mirrors of the defs that many laws share. -/
namespace Lib
open PySem PySem.Spec PyProof.Rows L2 Evl Q4
noncomputable def m_law_deck : M Fl := (mSeq (mAsg (mC (.int 7)) (gN 1))
  (mSeq (mFor (mItems (mVar 0)) (gN 2) (mSeq (mAsg (mBin dMod (mCall dInt1 (mCons (mBin dAddX (mBin dMulX (mVar 1) (mC (.int 48271))) (mVar 2)) mNil)) (mC (.int 2147483647))) (gN 1))
  mNx))
  (mSeq (mRetL (mLst (mCons (mC (.int 0)) (mCons (mC (.int 0)) (mCons (mVar 1) (mCons (mFz (mCallL dList (mCons (mVar 0) mNil))) (mCons (mC (.int 0)) mNil)))))))
  mNx)))
noncomputable def f_law_deck : FM := fnM 3 [] m_law_deck
noncomputable def m_law_draw : M Fl := (mSeq (mIfS (mAnd (mTest (mBin dEqX (mIxV 0 (mC (.int 0))) (mC (.int 0)))) (mTest (mBin dLt (mIxV 0 (mC (.int 1))) (mCall dLen (mCons (mIxV 0 (mC (.int 3))) mNil))))) (mSeq (mSetIx 0 (mC (.int 0)) (mCall dAbs (mCons (mBin dIx (mIxV 0 (mC (.int 3))) (mIxV 0 (mC (.int 1)))) mNil)))
  (mSeq (mSetIx 0 (mC (.int 1)) (mBin dAddX (mIxV 0 (mC (.int 1))) (mC (.int 1))))
  mNx)) (mSeq (mIfS (mTest (mBin dEqX (mIxV 0 (mC (.int 0))) (mC (.int 0)))) (mSeq (mSetIx 0 (mC (.int 4)) (mBin dAddX (mIxV 0 (mC (.int 4))) (mC (.int 1))))
  (mSeq (mAsg (mBin dMod (mCall dInt1 (mCons (mBin dAddX (mBin dAddX (mBin dMulX (mIxV 0 (mC (.int 2))) (mC (.int 48271))) (mBin dMulX (mIxV 0 (mC (.int 4))) (mC (.int 69621)))) (mC (.int 12345))) mNil)) (mC (.int 2147483647))) (gN 2))
  (mSeq (mAsg (mBin dMod (mCall dInt1 (mCons (mBin dAddX (mBin dAddX (mBin dMulX (mVar 2) (mVar 2)) (mBin dMulX (mC (.int 16807)) (mIxV 0 (mC (.int 4))))) (mC (.int 7))) mNil)) (mC (.int 998244353))) (gN 2))
  (mSeq (mAsg (mBin dMod (mCall dInt1 (mCons (mBin dAddX (mBin dAddX (mBin dMulX (mVar 2) (mVar 2)) (mBin dMulX (mC (.int 48271)) (mIxV 0 (mC (.int 4))))) (mIxV 0 (mC (.int 2)))) mNil)) (mC (.int 2147483629))) (gN 2))
  (mSeq (mSetIx 0 (mC (.int 0)) (mBin dFdiv (mVar 2) (mC (.int 13))))
  mNx))))) mNx)
  mNx))
  (mSeq (mAsg (mBin dMod (mCall dInt1 (mCons (mIxV 0 (mC (.int 0))) mNil)) (mVar 1)) (gN 3))
  (mSeq (mSetIx 0 (mC (.int 0)) (mBin dFdiv (mIxV 0 (mC (.int 0))) (mVar 1)))
  (mSeq (mRetV 3)
  mNx))))
noncomputable def f_law_draw : FM := fnM 4 [0] m_law_draw
noncomputable def m_law_is : M Fl := (mSeq (mRet (mBin dEqX (mCall dRepr (mCons (mVar 0) mNil)) (mCall dRepr (mCons (mVar 1) mNil))))
  mNx)
noncomputable def f_law_is : FM := fnM 2 [] m_law_is
noncomputable def m_law_trim : M Fl := (mSeq (mAsgL 2 (mComp (mItems (mVar 1)) [3] (gN 3) mYes (mBin dMod (mCall dInt1 (mCons (mVar 3) mNil)) (mVar 0))))
  (mSeq (mWhile (mAnd (mTest (mBin dGt (mLenV 2) (mC (.int 0)))) (mTest (mBin dEqX (mIxV 2 (mUn dNeg (mC (.int 1)))) (mC (.int 0))))) (mSeq (mDrop (mPop 2))
  mNx))
  (mSeq (mRet (mCall dTuple (mCons (mVar 2) mNil)))
  mNx)))
noncomputable def f_law_trim : FM := fnM 4 [] m_law_trim
noncomputable def m_law_inv : M Fl := (mSeq (mRet (mBin dIx (mFz (mComp (mRng2 (mCons (mC (.int 1)) (mCons (mVar 0) mNil))) [2] (gN 2) (mTest (mBin dEqX (mBin dMod (mCall dInt1 (mCons (mBin dMulX (mVar 1) (mVar 2)) mNil)) (mVar 0)) (mC (.int 1)))) (mVar 2))) (mC (.int 0))))
  mNx)
noncomputable def f_law_inv : FM := fnM 3 [] m_law_inv
noncomputable def m_is_integer : M Fl := (mSeq (mRet (mAndV (mIsi "int" (mVar 0)) (mNotX (mIsi "bool" (mVar 0)))))
  mNx)
noncomputable def f_is_integer : FM := fnM 1 [] m_is_integer
noncomputable def m_is_count : M Fl := (mSeq (mIfS (mOr (mNotT (mTru (mFn f_is_integer [] (mCons (mVar 0) mNil)))) (mTest (mBin dLt (mVar 0) (mVar 1)))) (mSeq (mRet (mC (.bl false)))
  mNx) mNx)
  (mSeq (mRet (mOrV (mBin dIs (mVar 2) (mC .non)) (mBin dLe (mVar 0) (mVar 2))))
  mNx))
noncomputable def f_is_count : FM := fnM 3 [] m_is_count
noncomputable def m_inverse : M Fl := (mSeq (mIfS (mTest (mBin dEqX (mVar 1) (mC (.int 0)))) (mSeq mBad
  mNx) mNx)
  (mSeq (mPar 2 3 (mCons (mC (.int 1)) (mCons (mBin dSub (mVar 0) (mC (.int 2))) mNil)))
  (mSeq (mWhile (mTest (mBin dGt (mVar 3) (mC (.int 0)))) (mSeq (mIfS (mTest (mBin dEqX (mBin dMod (mVar 3) (mC (.int 2))) (mC (.int 1)))) (mSeq (mAsg (mBin dMod (mBin dMulX (mVar 2) (mVar 1)) (mVar 0)) (gN 2))
  mNx) mNx)
  (mSeq (mAsg (mBin dMod (mBin dMulX (mVar 1) (mVar 1)) (mVar 0)) (gN 1))
  (mSeq (mAug 3 dIFdiv (mC (.int 2)))
  mNx))))
  (mSeq (mRetV 2)
  mNx))))
noncomputable def f_inverse : FM := fnM 4 [] m_inverse
noncomputable def m_is_polynomial : M Fl := (mSeq (mIfS (mOr (mNotT (mTru (mIsi "tuple" (mVar 1)))) (mNotT (mTru (mCall dAll (mCons (mFz (mComp (mItems (mVar 1)) [2] (gN 2) mYes (mFn f_is_count [] (mCons (mVar 2) (mCons (mC (.int 0)) (mCons (mBin dSub (mVar 0) (mC (.int 1))) mNil)))))) mNil))))) (mSeq (mRet (mC (.bl false)))
  mNx) mNx)
  (mSeq (mRet (mOrV (mNotN 1) (mBin dNeX (mIxV 1 (mUn dNeg (mC (.int 1)))) (mC (.int 0)))))
  mNx))
noncomputable def f_is_polynomial : FM := fnM 3 [] m_is_polynomial
noncomputable def m_trimmed : M Fl := (mSeq (mAsgL 2 (mComp (mItems (mVar 1)) [3] (gN 3) mYes (mBin dMod (mVar 3) (mVar 0))))
  (mSeq (mWhile (mAnd (mTruV 2) (mTest (mBin dEqX (mIxV 2 (mUn dNeg (mC (.int 1)))) (mC (.int 0))))) (mSeq (mDrop (mPop 2))
  mNx))
  (mSeq (mRet (mCall dTuple (mCons (mVar 2) mNil)))
  mNx)))
noncomputable def f_trimmed : FM := fnM 4 [] m_trimmed
noncomputable def m_degree : M Fl := (mSeq (mRet (mBin dSub (mLenV 0) (mC (.int 1))))
  mNx)
noncomputable def f_degree : FM := fnM 1 [] m_degree
noncomputable def m_index : M Fl := (mSeq (mAsg (mC (.int 0)) (gN 2))
  (mSeq (mFor (mItems (mStep (mVar 1) mNoPart mNoPart (mPart (mUn dNeg (mC (.int 1)))))) (gN 3) (mSeq (mAsg (mBin dAddX (mBin dMulX (mVar 2) (mVar 0)) (mVar 3)) (gN 2))
  mNx))
  (mSeq (mRetV 2)
  mNx)))
noncomputable def f_index : FM := fnM 4 [] m_index
noncomputable def m_of_index : M Fl := (mSeq (mAsgL 2 (mLst mNil))
  (mSeq (mWhile (mTest (mBin dGt (mVar 1) (mC (.int 0)))) (mSeq (mApp 2 (mBin dMod (mVar 1) (mVar 0)))
  (mSeq (mAug 1 dIFdiv (mVar 0))
  mNx)))
  (mSeq (mRet (mCall dTuple (mCons (mVar 2) mNil)))
  mNx)))
noncomputable def f_of_index : FM := fnM 3 [] m_of_index
noncomputable def m_scaled : M Fl := (mSeq (mRet (mFn f_trimmed [] (mCons (mVar 0) (mCons (mFz (mComp (mItems (mVar 1)) [3] (gN 3) mYes (mBin dMulX (mVar 3) (mVar 2)))) mNil))))
  mNx)
noncomputable def f_scaled : FM := fnM 4 [] m_scaled
noncomputable def m_monic : M Fl := (mSeq (mRet (mIf (mTruV 1) (mFn f_scaled [] (mCons (mVar 0) (mCons (mVar 1) (mCons (mFn f_inverse [] (mCons (mVar 0) (mCons (mIxV 1 (mUn dNeg (mC (.int 1)))) mNil))) mNil)))) (mTup mNil)))
  mNx)
noncomputable def f_monic : FM := fnM 2 [] m_monic
noncomputable def m_combined : M Fl := (mSeq (mAsg (mCall dMax2 (mCons (mLenV 1) (mCons (mLenV 2) mNil))) (gN 4))
  (mSeq (mAsg (mBin dAddX (mVar 1) (mBin dMulX (mTup (mCons (mC (.int 0)) mNil)) (mBin dSub (mVar 4) (mLenV 1)))) (gN 5))
  (mSeq (mAsg (mBin dAddX (mVar 2) (mBin dMulX (mTup (mCons (mC (.int 0)) mNil)) (mBin dSub (mVar 4) (mLenV 2)))) (gN 6))
  (mSeq (mRet (mFn f_trimmed [] (mCons (mVar 0) (mCons (mFz (mComp (mZip (mCons (mVar 5) (mCons (mVar 6) mNil))) [7, 8] (gT 2 (gsC (gN 7) (gsC (gN 8) gs0))) mYes (mBin dAddX (mVar 7) (mBin dMulX (mVar 3) (mVar 8))))) mNil))))
  mNx))))
noncomputable def f_combined : FM := fnM 9 [] m_combined
noncomputable def m_sum_of : M Fl := (mSeq (mRet (mFn f_combined [] (mCons (mVar 0) (mCons (mVar 1) (mCons (mVar 2) (mCons (mC (.int 1)) mNil))))))
  mNx)
noncomputable def f_sum_of : FM := fnM 3 [] m_sum_of
noncomputable def m_difference : M Fl := (mSeq (mRet (mFn f_combined [] (mCons (mVar 0) (mCons (mVar 1) (mCons (mVar 2) (mCons (mUn dNeg (mC (.int 1))) mNil))))))
  mNx)
noncomputable def f_difference : FM := fnM 3 [] m_difference
noncomputable def m_product : M Fl := (mSeq (mIfS (mOr (mNotT (mTruV 1)) (mNotT (mTruV 2))) (mSeq (mRet (mTup mNil))
  mNx) mNx)
  (mSeq (mAsgL 3 (mBinL dRep (mFz (mLst (mCons (mC (.int 0)) mNil))) (mBin dSub (mBin dAddX (mLenV 1) (mLenV 2)) (mC (.int 1)))))
  (mSeq (mFor (mEnum (mVar 1)) (gT 2 (gsC (gN 4) (gsC (gN 5) gs0))) (mSeq (mFor (mEnum (mVar 2)) (gT 2 (gsC (gN 6) (gsC (gN 7) gs0))) (mSeq (mAugIx 3 dAddI (mBin dAddX (mVar 4) (mVar 6)) (mBin dMulX (mVar 5) (mVar 7)))
  mNx))
  mNx))
  (mSeq (mRet (mFn f_trimmed [] (mCons (mVar 0) (mCons (mVar 3) mNil))))
  mNx))))
noncomputable def f_product : FM := fnM 8 [] m_product
noncomputable def m_power : M Fl := (mSeq (mAsg (mTup (mCons (mC (.int 1)) mNil)) (gN 3))
  (mSeq (mWhile (mTest (mBin dGt (mVar 2) (mC (.int 0)))) (mSeq (mIfS (mTest (mBin dEqX (mBin dMod (mVar 2) (mC (.int 2))) (mC (.int 1)))) (mSeq (mAsg (mFn f_product [] (mCons (mVar 0) (mCons (mVar 3) (mCons (mVar 1) mNil)))) (gN 3))
  mNx) mNx)
  (mSeq (mAug 2 dIFdiv (mC (.int 2)))
  (mSeq (mIfS (mTest (mBin dGt (mVar 2) (mC (.int 0)))) (mSeq (mAsg (mFn f_product [] (mCons (mVar 0) (mCons (mVar 1) (mCons (mVar 1) mNil)))) (gN 1))
  mNx) mNx)
  mNx))))
  (mSeq (mRetV 3)
  mNx)))
noncomputable def f_power : FM := fnM 4 [] m_power
noncomputable def m_slope : M Fl := (mSeq (mRet (mFn f_trimmed [] (mCons (mVar 0) (mCons (mSlX (mFz (mComp (mEnum (mVar 1)) [2, 3] (gT 2 (gsC (gN 2) (gsC (gN 3) gs0))) mYes (mBin dMulX (mVar 2) (mVar 3)))) (mPart (mC (.int 1))) mNoPart) mNil))))
  mNx)
noncomputable def f_slope : FM := fnM 4 [] m_slope
noncomputable def m_value_at : M Fl := (mSeq (mAsg (mC (.int 0)) (gN 3))
  (mSeq (mFor (mItems (mStep (mVar 1) mNoPart mNoPart (mPart (mUn dNeg (mC (.int 1)))))) (gN 4) (mSeq (mAsg (mBin dMod (mBin dAddX (mBin dMulX (mVar 3) (mVar 2)) (mVar 4)) (mVar 0)) (gN 3))
  mNx))
  (mSeq (mRetV 3)
  mNx)))
noncomputable def f_value_at : FM := fnM 5 [] m_value_at
noncomputable def m_put_in : M Fl := (mSeq (mAsg (mTup mNil) (gN 3))
  (mSeq (mFor (mItems (mStep (mVar 1) mNoPart mNoPart (mPart (mUn dNeg (mC (.int 1)))))) (gN 4) (mSeq (mAsg (mFn f_sum_of [] (mCons (mVar 0) (mCons (mFn f_product [] (mCons (mVar 0) (mCons (mVar 3) (mCons (mVar 2) mNil)))) (mCons (mFn f_trimmed [] (mCons (mVar 0) (mCons (mFz (mLst (mCons (mVar 4) mNil))) mNil))) mNil)))) (gN 3))
  mNx))
  (mSeq (mRetV 3)
  mNx)))
noncomputable def f_put_in : FM := fnM 5 [] m_put_in
noncomputable def m_law_add : M Fl := (mSeq (mAsg (mCall dMax2 (mCons (mLenV 1) (mCons (mLenV 2) mNil))) (gN 4))
  (mSeq (mAsg (mBin dAddX (mFz (mCallL dList (mCons (mVar 1) mNil))) (mBin dMulX (mFz (mLst (mCons (mC (.int 0)) mNil))) (mBin dSub (mVar 4) (mLenV 1)))) (gN 5))
  (mSeq (mAsg (mBin dAddX (mFz (mCallL dList (mCons (mVar 2) mNil))) (mBin dMulX (mFz (mLst (mCons (mC (.int 0)) mNil))) (mBin dSub (mVar 4) (mLenV 2)))) (gN 6))
  (mSeq (mRet (mFn f_law_trim [] (mCons (mVar 0) (mCons (mFz (mComp (mRng1 (mCons (mVar 4) mNil)) [7] (gN 7) mYes (mBin dAddX (mIxV 5 (mVar 7)) (mBin dMulX (mVar 3) (mIxV 6 (mVar 7)))))) mNil))))
  mNx))))
noncomputable def f_law_add : FM := fnM 8 [] m_law_add
noncomputable def m_law_mul : M Fl := (mSeq (mAsgL 3 (mBinL dRep (mFz (mLst (mCons (mC (.int 0)) mNil))) (mCall dMax2 (mCons (mC (.int 0)) (mCons (mBin dSub (mBin dAddX (mLenV 1) (mLenV 2)) (mC (.int 1))) mNil)))))
  (mSeq (mFor (mRng1 (mCons (mLenV 1) mNil)) (gN 4) (mSeq (mFor (mRng1 (mCons (mLenV 2) mNil)) (gN 5) (mSeq (mSetIx 3 (mBin dAddX (mVar 4) (mVar 5)) (mBin dAddX (mIxV 3 (mBin dAddX (mVar 4) (mVar 5))) (mBin dMulX (mIxV 1 (mVar 4)) (mIxV 2 (mVar 5)))))
  mNx))
  mNx))
  (mSeq (mRet (mFn f_law_trim [] (mCons (mVar 0) (mCons (mVar 3) mNil))))
  mNx)))
noncomputable def f_law_mul : FM := fnM 6 [] m_law_mul
noncomputable def m_law_value : M Fl := (mSeq (mAsg (mC (.int 0)) (gN 3))
  (mSeq (mFor (mRng3 (mCons (mBin dSub (mLenV 1) (mC (.int 1))) (mCons (mUn dNeg (mC (.int 1))) (mCons (mUn dNeg (mC (.int 1))) mNil)))) (gN 4) (mSeq (mAsg (mBin dMod (mCall dInt1 (mCons (mBin dAddX (mBin dMulX (mVar 3) (mVar 2)) (mIxV 1 (mVar 4))) mNil)) (mVar 0)) (gN 3))
  mNx))
  (mSeq (mRetV 3)
  mNx)))
noncomputable def f_law_value : FM := fnM 5 [] m_law_value
end Lib


set_option Elab.async false
set_option linter.all false
set_option maxRecDepth 100000
set_option maxHeartbeats 4000000
/-! Part P: what the shared defs tell. -/
namespace Lib
open PySem PySem.Spec PyProof.Rows L2 Evl Q4

abbrev IL (ns : List Int) : List D := ns.map .int
/-! ### trailing zeros -/
def trimI : List Int → List Int := fun ns => (ns.reverse.dropWhile (· == 0)).reverse
theorem trimI_nil : trimI [] = [] := rfl
theorem trimI_zero (ns : List Int) : trimI (ns ++ [0]) = trimI ns := by simp [trimI]
theorem trimI_ne (ns : List Int) {a : Int} (h : a ≠ 0) : trimI (ns ++ [a]) = ns ++ [a] := by simp [trimI, h]
theorem ap_degree {ds : List D} : Ap f_degree [.tup ds] (.int (ds.length - 1)) := by
  refine ap_fn ?_
  show (m_degree [.fz (.tup ds)]).sat _
  repeat (first | refine s_last ?_ | refine s_seq ?_ | refine s_asgN ?_ | refine s_bin ?_ | refine s_un ?_ | refine s_C ?_ | refine s_var rfl ?_ | refine s_ixV rfl ?_ | refine s_ixO rfl ?_ | refine s_cons ?_ | refine s_nil ?_ | refine s_call ?_ | refine s_callL ?_ | refine s_test ?_ | refine s_tru ?_ | refine s_truV rfl ?_ | refine s_truO rfl ?_ | refine s_len rfl ?_ | refine s_lenO rfl ?_ | refine s_notT ?_ | refine s_notX ?_ | refine s_notN rfl ?_ | refine s_notO rfl ?_ | refine s_and ?_ | refine s_or ?_ | refine s_tup ?_ | refine s_fz ?_ | refine s_lst ?_ | refine s_isi ?_ | refine s_andV ?_ | refine s_orV ?_ | refine s_if ?_ | refine s_chain ?_ | refine s_slX ?_ | refine s_rev ?_ | refine s_part ?_ | refine s_noPart ?_ | refine s_asgL ?_ | refine s_par ?_ | refine s_aug rfl ?_ | refine s_app rfl ?_ | refine s_ret ?_ | refine s_retV rfl ?_ | refine s_retO rfl ?_ | refine s_retL ?_ | refine s_drop ?_ | refine s_ifS ?_ | refine s_nx ?_ | refine s_setIx ?_ | refine s_items ?_ | refine s_enum ?_ | refine s_zip ?_ | refine s_rng1 ?_ | refine s_rng2 ?_ | refine s_ap ?_ | refine s_apL ?_ | refine s_yes ?_ | refine s_binL ?_ | refine o_add ?_ | refine o_sub ?_ | refine o_lt ?_ | refine o_le ?_ | refine o_gt ?_ | refine o_ge ?_ | refine o_eq ?_ | refine o_ne ?_ | refine o_neg ?_ | refine o_int1 ?_ | refine o_int1b ?_ | refine o_abs ?_ | refine o_tupleL ?_ | refine o_tupleT ?_ | refine o_lenT ?_ | refine o_lenL ?_ | refine o_addI ?_ | refine s_varO rfl ?_ | refine ⟨⟨_, rfl⟩, ?_⟩ | refine ⟨_, _, _, rfl, rfl, rfl, ?_⟩ | refine ⟨_, rfl, ?_⟩ | refine ⟨rfl, ?_⟩ | refine ⟨?_, Nat.le_of_ble_eq_true rfl⟩ | refine o_mod (by omega) ?_ | refine o_mul (mul64 (by omega) (by omega)) ?_)
  rfl
theorem getLast_IL {ns : List Int} {a : Int} : (IL (ns ++ [a]))[(IL (ns ++ [a])).length - 1]? = some (.int a) := by simp [IL]
theorem ixLast {ns : List Int} {a : Int} : dIx (.lst (IL (ns ++ [a]))) (.int (-1)) = some (.int a) := by
  show atI (IL (ns ++ [a])) (-1) = _
  unfold atI ixN
  have h1 : (IL (ns ++ [a])).length = ns.length + 1 := by simp [IL]
  rw [h1, if_neg (by omega), if_pos (by omega)]
  show (IL (ns ++ [a]))[((-1 : Int) + ((ns.length + 1 : Nat) : Int)).toNat]? = _
  rw [show ((-1 : Int) + ((ns.length + 1 : Nat) : Int)).toNat = ns.length by omega]
  simp [IL]
theorem ixLastT {ns : List Int} {a : Int} : dIx (.tup (IL (ns ++ [a]))) (.int (-1)) = some (.int a) := by
  show atI (IL (ns ++ [a])) (-1) = _
  unfold atI ixN
  have h1 : (IL (ns ++ [a])).length = ns.length + 1 := by simp [IL]
  rw [h1, if_neg (by omega), if_pos (by omega)]
  show (IL (ns ++ [a]))[((-1 : Int) + ((ns.length + 1 : Nat) : Int)).toNat]? = _
  rw [show ((-1 : Int) + ((ns.length + 1 : Nat) : Int)).toNat = ns.length by omega]
  simp [IL]
theorem ap_trimmed {p : Int} {ns : List Int} {x : D} (hx : x = .lst (IL ns) ∨ x = .tup (IL ns)) (hp : 0 < p) (hl : ns.length ≤ cap) : Ap f_trimmed [.int p, x] (.tup (IL (trimI (ns.map (· % p))))) := by
  refine ap_fn ?_
  show (m_trimmed [.fz (.int p), .fz x, .no, .no]).sat _
  refine s_seq (s_asgL (s_map (fun d => match d with | .int i => .int (i % p) | d => d) ?_))
  repeat (first | refine s_last ?_ | refine s_seq ?_ | refine s_asgN ?_ | refine s_bin ?_ | refine s_un ?_ | refine s_C ?_ | refine s_var rfl ?_ | refine s_ixV rfl ?_ | refine s_ixO rfl ?_ | refine s_cons ?_ | refine s_nil ?_ | refine s_call ?_ | refine s_callL ?_ | refine s_test ?_ | refine s_tru ?_ | refine s_truV rfl ?_ | refine s_truO rfl ?_ | refine s_len rfl ?_ | refine s_lenO rfl ?_ | refine s_notT ?_ | refine s_notX ?_ | refine s_notN rfl ?_ | refine s_notO rfl ?_ | refine s_and ?_ | refine s_or ?_ | refine s_tup ?_ | refine s_fz ?_ | refine s_lst ?_ | refine s_isi ?_ | refine s_andV ?_ | refine s_orV ?_ | refine s_if ?_ | refine s_chain ?_ | refine s_slX ?_ | refine s_rev ?_ | refine s_part ?_ | refine s_noPart ?_ | refine s_asgL ?_ | refine s_par ?_ | refine s_aug rfl ?_ | refine s_app rfl ?_ | refine s_ret ?_ | refine s_retV rfl ?_ | refine s_retO rfl ?_ | refine s_retL ?_ | refine s_drop ?_ | refine s_ifS ?_ | refine s_nx ?_ | refine s_setIx ?_ | refine s_items ?_ | refine s_enum ?_ | refine s_zip ?_ | refine s_rng1 ?_ | refine s_rng2 ?_ | refine s_ap ?_ | refine s_apL ?_ | refine s_yes ?_ | refine s_binL ?_ | refine o_add ?_ | refine o_sub ?_ | refine o_lt ?_ | refine o_le ?_ | refine o_gt ?_ | refine o_ge ?_ | refine o_eq ?_ | refine o_ne ?_ | refine o_neg ?_ | refine o_int1 ?_ | refine o_int1b ?_ | refine o_abs ?_ | refine o_tupleL ?_ | refine o_tupleT ?_ | refine o_lenT ?_ | refine o_lenL ?_ | refine o_addI ?_ | refine s_varO rfl ?_ | refine ⟨⟨_, rfl⟩, ?_⟩ | refine ⟨_, _, _, rfl, rfl, rfl, ?_⟩ | refine ⟨_, rfl, ?_⟩ | refine ⟨rfl, ?_⟩ | refine ⟨?_, Nat.le_of_ble_eq_true rfl⟩ | refine o_mod (by omega) ?_ | refine o_mul (mul64 (by omega) (by omega)) ?_)
  refine ⟨IL ns, by rcases hx with h | h <;> simp [h], rfl, by simpa [IL] using hl, fun d hd => ?_, rfl, rfl, ?_⟩
  · obtain ⟨i, _, rfl⟩ := List.mem_map.mp hd
    refine ⟨_, rfl, ?_⟩
    repeat (first | refine s_last ?_ | refine s_seq ?_ | refine s_asgN ?_ | refine s_bin ?_ | refine s_un ?_ | refine s_C ?_ | refine s_var rfl ?_ | refine s_ixV rfl ?_ | refine s_ixO rfl ?_ | refine s_cons ?_ | refine s_nil ?_ | refine s_call ?_ | refine s_callL ?_ | refine s_test ?_ | refine s_tru ?_ | refine s_truV rfl ?_ | refine s_truO rfl ?_ | refine s_len rfl ?_ | refine s_lenO rfl ?_ | refine s_notT ?_ | refine s_notX ?_ | refine s_notN rfl ?_ | refine s_notO rfl ?_ | refine s_and ?_ | refine s_or ?_ | refine s_tup ?_ | refine s_fz ?_ | refine s_lst ?_ | refine s_isi ?_ | refine s_andV ?_ | refine s_orV ?_ | refine s_if ?_ | refine s_chain ?_ | refine s_slX ?_ | refine s_rev ?_ | refine s_part ?_ | refine s_noPart ?_ | refine s_asgL ?_ | refine s_par ?_ | refine s_aug rfl ?_ | refine s_app rfl ?_ | refine s_ret ?_ | refine s_retV rfl ?_ | refine s_retO rfl ?_ | refine s_retL ?_ | refine s_drop ?_ | refine s_ifS ?_ | refine s_nx ?_ | refine s_setIx ?_ | refine s_items ?_ | refine s_enum ?_ | refine s_zip ?_ | refine s_rng1 ?_ | refine s_rng2 ?_ | refine s_ap ?_ | refine s_apL ?_ | refine s_yes ?_ | refine s_binL ?_ | refine o_add ?_ | refine o_sub ?_ | refine o_lt ?_ | refine o_le ?_ | refine o_gt ?_ | refine o_ge ?_ | refine o_eq ?_ | refine o_ne ?_ | refine o_neg ?_ | refine o_int1 ?_ | refine o_int1b ?_ | refine o_abs ?_ | refine o_tupleL ?_ | refine o_tupleT ?_ | refine o_lenT ?_ | refine o_lenL ?_ | refine o_addI ?_ | refine s_varO rfl ?_ | refine ⟨⟨_, rfl⟩, ?_⟩ | refine ⟨_, _, _, rfl, rfl, rfl, ?_⟩ | refine ⟨_, rfl, ?_⟩ | refine ⟨rfl, ?_⟩ | refine ⟨?_, Nat.le_of_ble_eq_true rfl⟩ | refine o_mod (by omega) ?_ | refine o_mul (mul64 (by omega) (by omega)) ?_)
    rfl
  have e : (IL ns).map (fun d => match d with | .int i => .int (i % p) | d => d) = IL (ns.map (· % p)) := by simp [IL]
  rw [e]
  refine s_seq (s_while (fun n S => ∃ ys : List Int, S = [.fz (.int p), .fz x, .ow (IL ys), .no] ∧ ys.length = n ∧ trimI ys = trimI (ns.map (· % p))) (fun n S h => ?_) _ _ ⟨_, rfl, rfl, rfl⟩)
  obtain ⟨ys, rfl, hn, ht⟩ := h
  rcases List.eq_nil_or_concat ys with rfl | ⟨zs, a, rfl⟩
  · repeat (first | refine s_last ?_ | refine s_seq ?_ | refine s_asgN ?_ | refine s_bin ?_ | refine s_un ?_ | refine s_C ?_ | refine s_var rfl ?_ | refine s_ixV rfl ?_ | refine s_ixO rfl ?_ | refine s_cons ?_ | refine s_nil ?_ | refine s_call ?_ | refine s_callL ?_ | refine s_test ?_ | refine s_tru ?_ | refine s_truV rfl ?_ | refine s_truO rfl ?_ | refine s_len rfl ?_ | refine s_lenO rfl ?_ | refine s_notT ?_ | refine s_notX ?_ | refine s_notN rfl ?_ | refine s_notO rfl ?_ | refine s_and ?_ | refine s_or ?_ | refine s_tup ?_ | refine s_fz ?_ | refine s_lst ?_ | refine s_isi ?_ | refine s_andV ?_ | refine s_orV ?_ | refine s_if ?_ | refine s_chain ?_ | refine s_slX ?_ | refine s_rev ?_ | refine s_part ?_ | refine s_noPart ?_ | refine s_asgL ?_ | refine s_par ?_ | refine s_aug rfl ?_ | refine s_app rfl ?_ | refine s_ret ?_ | refine s_retV rfl ?_ | refine s_retO rfl ?_ | refine s_retL ?_ | refine s_drop ?_ | refine s_ifS ?_ | refine s_nx ?_ | refine s_setIx ?_ | refine s_items ?_ | refine s_enum ?_ | refine s_zip ?_ | refine s_rng1 ?_ | refine s_rng2 ?_ | refine s_ap ?_ | refine s_apL ?_ | refine s_yes ?_ | refine s_binL ?_ | refine o_add ?_ | refine o_sub ?_ | refine o_lt ?_ | refine o_le ?_ | refine o_gt ?_ | refine o_ge ?_ | refine o_eq ?_ | refine o_ne ?_ | refine o_neg ?_ | refine o_int1 ?_ | refine o_int1b ?_ | refine o_abs ?_ | refine o_tupleL ?_ | refine o_tupleT ?_ | refine o_lenT ?_ | refine o_lenL ?_ | refine o_addI ?_ | refine s_varO rfl ?_ | refine ⟨⟨_, rfl⟩, ?_⟩ | refine ⟨_, _, _, rfl, rfl, rfl, ?_⟩ | refine ⟨_, rfl, ?_⟩ | refine ⟨rfl, ?_⟩ | refine ⟨?_, Nat.le_of_ble_eq_true rfl⟩ | refine o_mod (by omega) ?_ | refine o_mul (mul64 (by omega) (by omega)) ?_)
    refine ⟨fun h => absurd h (by decide), fun _ => ⟨fun h => absurd h (by decide), fun _ => ⟨rfl, ?_⟩⟩⟩
    repeat (first | refine s_last ?_ | refine s_seq ?_ | refine s_asgN ?_ | refine s_bin ?_ | refine s_un ?_ | refine s_C ?_ | refine s_var rfl ?_ | refine s_ixV rfl ?_ | refine s_ixO rfl ?_ | refine s_cons ?_ | refine s_nil ?_ | refine s_call ?_ | refine s_callL ?_ | refine s_test ?_ | refine s_tru ?_ | refine s_truV rfl ?_ | refine s_truO rfl ?_ | refine s_len rfl ?_ | refine s_lenO rfl ?_ | refine s_notT ?_ | refine s_notX ?_ | refine s_notN rfl ?_ | refine s_notO rfl ?_ | refine s_and ?_ | refine s_or ?_ | refine s_tup ?_ | refine s_fz ?_ | refine s_lst ?_ | refine s_isi ?_ | refine s_andV ?_ | refine s_orV ?_ | refine s_if ?_ | refine s_chain ?_ | refine s_slX ?_ | refine s_rev ?_ | refine s_part ?_ | refine s_noPart ?_ | refine s_asgL ?_ | refine s_par ?_ | refine s_aug rfl ?_ | refine s_app rfl ?_ | refine s_ret ?_ | refine s_retV rfl ?_ | refine s_retO rfl ?_ | refine s_retL ?_ | refine s_drop ?_ | refine s_ifS ?_ | refine s_nx ?_ | refine s_setIx ?_ | refine s_items ?_ | refine s_enum ?_ | refine s_zip ?_ | refine s_rng1 ?_ | refine s_rng2 ?_ | refine s_ap ?_ | refine s_apL ?_ | refine s_yes ?_ | refine s_binL ?_ | refine o_add ?_ | refine o_sub ?_ | refine o_lt ?_ | refine o_le ?_ | refine o_gt ?_ | refine o_ge ?_ | refine o_eq ?_ | refine o_ne ?_ | refine o_neg ?_ | refine o_int1 ?_ | refine o_int1b ?_ | refine o_abs ?_ | refine o_tupleL ?_ | refine o_tupleT ?_ | refine o_lenT ?_ | refine o_lenL ?_ | refine o_addI ?_ | refine s_varO rfl ?_ | refine ⟨⟨_, rfl⟩, ?_⟩ | refine ⟨_, _, _, rfl, rfl, rfl, ?_⟩ | refine ⟨_, rfl, ?_⟩ | refine ⟨rfl, ?_⟩ | refine ⟨?_, Nat.le_of_ble_eq_true rfl⟩ | refine o_mod (by omega) ?_ | refine o_mul (mul64 (by omega) (by omega)) ?_)
    rw [← ht]
    rfl
  · rw [List.concat_eq_append] at hn ht ⊢
    repeat (first | refine s_last ?_ | refine s_seq ?_ | refine s_asgN ?_ | refine s_bin ?_ | refine s_un ?_ | refine s_C ?_ | refine s_var rfl ?_ | refine s_ixV rfl ?_ | refine s_ixO rfl ?_ | refine s_cons ?_ | refine s_nil ?_ | refine s_call ?_ | refine s_callL ?_ | refine s_test ?_ | refine s_tru ?_ | refine s_truV rfl ?_ | refine s_truO rfl ?_ | refine s_len rfl ?_ | refine s_lenO rfl ?_ | refine s_notT ?_ | refine s_notX ?_ | refine s_notN rfl ?_ | refine s_notO rfl ?_ | refine s_and ?_ | refine s_or ?_ | refine s_tup ?_ | refine s_fz ?_ | refine s_lst ?_ | refine s_isi ?_ | refine s_andV ?_ | refine s_orV ?_ | refine s_if ?_ | refine s_chain ?_ | refine s_slX ?_ | refine s_rev ?_ | refine s_part ?_ | refine s_noPart ?_ | refine s_asgL ?_ | refine s_par ?_ | refine s_aug rfl ?_ | refine s_app rfl ?_ | refine s_ret ?_ | refine s_retV rfl ?_ | refine s_retO rfl ?_ | refine s_retL ?_ | refine s_drop ?_ | refine s_ifS ?_ | refine s_nx ?_ | refine s_setIx ?_ | refine s_items ?_ | refine s_enum ?_ | refine s_zip ?_ | refine s_rng1 ?_ | refine s_rng2 ?_ | refine s_ap ?_ | refine s_apL ?_ | refine s_yes ?_ | refine s_binL ?_ | refine o_add ?_ | refine o_sub ?_ | refine o_lt ?_ | refine o_le ?_ | refine o_gt ?_ | refine o_ge ?_ | refine o_eq ?_ | refine o_ne ?_ | refine o_neg ?_ | refine o_int1 ?_ | refine o_int1b ?_ | refine o_abs ?_ | refine o_tupleL ?_ | refine o_tupleT ?_ | refine o_lenT ?_ | refine o_lenL ?_ | refine o_addI ?_ | refine s_varO rfl ?_ | refine ⟨⟨_, rfl⟩, ?_⟩ | refine ⟨_, _, _, rfl, rfl, rfl, ?_⟩ | refine ⟨_, rfl, ?_⟩ | refine ⟨rfl, ?_⟩ | refine ⟨?_, Nat.le_of_ble_eq_true rfl⟩ | refine o_mod (by omega) ?_ | refine o_mul (mul64 (by omega) (by omega)) ?_)
    refine ⟨fun _ => ?_, fun h => by simp [IL] at h⟩
    repeat (first | refine s_last ?_ | refine s_seq ?_ | refine s_asgN ?_ | refine s_bin ?_ | refine s_un ?_ | refine s_C ?_ | refine s_var rfl ?_ | refine s_ixV rfl ?_ | refine s_ixO rfl ?_ | refine s_cons ?_ | refine s_nil ?_ | refine s_call ?_ | refine s_callL ?_ | refine s_test ?_ | refine s_tru ?_ | refine s_truV rfl ?_ | refine s_truO rfl ?_ | refine s_len rfl ?_ | refine s_lenO rfl ?_ | refine s_notT ?_ | refine s_notX ?_ | refine s_notN rfl ?_ | refine s_notO rfl ?_ | refine s_and ?_ | refine s_or ?_ | refine s_tup ?_ | refine s_fz ?_ | refine s_lst ?_ | refine s_isi ?_ | refine s_andV ?_ | refine s_orV ?_ | refine s_if ?_ | refine s_chain ?_ | refine s_slX ?_ | refine s_rev ?_ | refine s_part ?_ | refine s_noPart ?_ | refine s_asgL ?_ | refine s_par ?_ | refine s_aug rfl ?_ | refine s_app rfl ?_ | refine s_ret ?_ | refine s_retV rfl ?_ | refine s_retO rfl ?_ | refine s_retL ?_ | refine s_drop ?_ | refine s_ifS ?_ | refine s_nx ?_ | refine s_setIx ?_ | refine s_items ?_ | refine s_enum ?_ | refine s_zip ?_ | refine s_rng1 ?_ | refine s_rng2 ?_ | refine s_ap ?_ | refine s_apL ?_ | refine s_yes ?_ | refine s_binL ?_ | refine o_add ?_ | refine o_sub ?_ | refine o_lt ?_ | refine o_le ?_ | refine o_gt ?_ | refine o_ge ?_ | refine o_eq ?_ | refine o_ne ?_ | refine o_neg ?_ | refine o_int1 ?_ | refine o_int1b ?_ | refine o_abs ?_ | refine o_tupleL ?_ | refine o_tupleT ?_ | refine o_lenT ?_ | refine o_lenL ?_ | refine o_addI ?_ | refine s_varO rfl ?_ | refine ⟨⟨_, rfl⟩, ?_⟩ | refine ⟨_, _, _, rfl, rfl, rfl, ?_⟩ | refine ⟨_, rfl, ?_⟩ | refine ⟨rfl, ?_⟩ | refine ⟨?_, Nat.le_of_ble_eq_true rfl⟩ | refine o_mod (by omega) ?_ | refine o_mul (mul64 (by omega) (by omega)) ?_)
    refine ⟨_, ixLast, ?_⟩
    repeat (first | refine s_last ?_ | refine s_seq ?_ | refine s_asgN ?_ | refine s_bin ?_ | refine s_un ?_ | refine s_C ?_ | refine s_var rfl ?_ | refine s_ixV rfl ?_ | refine s_ixO rfl ?_ | refine s_cons ?_ | refine s_nil ?_ | refine s_call ?_ | refine s_callL ?_ | refine s_test ?_ | refine s_tru ?_ | refine s_truV rfl ?_ | refine s_truO rfl ?_ | refine s_len rfl ?_ | refine s_lenO rfl ?_ | refine s_notT ?_ | refine s_notX ?_ | refine s_notN rfl ?_ | refine s_notO rfl ?_ | refine s_and ?_ | refine s_or ?_ | refine s_tup ?_ | refine s_fz ?_ | refine s_lst ?_ | refine s_isi ?_ | refine s_andV ?_ | refine s_orV ?_ | refine s_if ?_ | refine s_chain ?_ | refine s_slX ?_ | refine s_rev ?_ | refine s_part ?_ | refine s_noPart ?_ | refine s_asgL ?_ | refine s_par ?_ | refine s_aug rfl ?_ | refine s_app rfl ?_ | refine s_ret ?_ | refine s_retV rfl ?_ | refine s_retO rfl ?_ | refine s_retL ?_ | refine s_drop ?_ | refine s_ifS ?_ | refine s_nx ?_ | refine s_setIx ?_ | refine s_items ?_ | refine s_enum ?_ | refine s_zip ?_ | refine s_rng1 ?_ | refine s_rng2 ?_ | refine s_ap ?_ | refine s_apL ?_ | refine s_yes ?_ | refine s_binL ?_ | refine o_add ?_ | refine o_sub ?_ | refine o_lt ?_ | refine o_le ?_ | refine o_gt ?_ | refine o_ge ?_ | refine o_eq ?_ | refine o_ne ?_ | refine o_neg ?_ | refine o_int1 ?_ | refine o_int1b ?_ | refine o_abs ?_ | refine o_tupleL ?_ | refine o_tupleT ?_ | refine o_lenT ?_ | refine o_lenL ?_ | refine o_addI ?_ | refine s_varO rfl ?_ | refine ⟨⟨_, rfl⟩, ?_⟩ | refine ⟨_, _, _, rfl, rfl, rfl, ?_⟩ | refine ⟨_, rfl, ?_⟩ | refine ⟨rfl, ?_⟩ | refine ⟨?_, Nat.le_of_ble_eq_true rfl⟩ | refine o_mod (by omega) ?_ | refine o_mul (mul64 (by omega) (by omega)) ?_)
    refine ⟨fun h => ?_, fun h => ⟨rfl, ?_⟩⟩
    · repeat (first | refine s_last ?_ | refine s_seq ?_ | refine s_asgN ?_ | refine s_bin ?_ | refine s_un ?_ | refine s_C ?_ | refine s_var rfl ?_ | refine s_ixV rfl ?_ | refine s_ixO rfl ?_ | refine s_cons ?_ | refine s_nil ?_ | refine s_call ?_ | refine s_callL ?_ | refine s_test ?_ | refine s_tru ?_ | refine s_truV rfl ?_ | refine s_truO rfl ?_ | refine s_len rfl ?_ | refine s_lenO rfl ?_ | refine s_notT ?_ | refine s_notX ?_ | refine s_notN rfl ?_ | refine s_notO rfl ?_ | refine s_and ?_ | refine s_or ?_ | refine s_tup ?_ | refine s_fz ?_ | refine s_lst ?_ | refine s_isi ?_ | refine s_andV ?_ | refine s_orV ?_ | refine s_if ?_ | refine s_chain ?_ | refine s_slX ?_ | refine s_rev ?_ | refine s_part ?_ | refine s_noPart ?_ | refine s_asgL ?_ | refine s_par ?_ | refine s_aug rfl ?_ | refine s_app rfl ?_ | refine s_ret ?_ | refine s_retV rfl ?_ | refine s_retO rfl ?_ | refine s_retL ?_ | refine s_drop ?_ | refine s_ifS ?_ | refine s_nx ?_ | refine s_setIx ?_ | refine s_items ?_ | refine s_enum ?_ | refine s_zip ?_ | refine s_rng1 ?_ | refine s_rng2 ?_ | refine s_ap ?_ | refine s_apL ?_ | refine s_yes ?_ | refine s_binL ?_ | refine o_add ?_ | refine o_sub ?_ | refine o_lt ?_ | refine o_le ?_ | refine o_gt ?_ | refine o_ge ?_ | refine o_eq ?_ | refine o_ne ?_ | refine o_neg ?_ | refine o_int1 ?_ | refine o_int1b ?_ | refine o_abs ?_ | refine o_tupleL ?_ | refine o_tupleT ?_ | refine o_lenT ?_ | refine o_lenL ?_ | refine o_addI ?_ | refine s_varO rfl ?_ | refine ⟨⟨_, rfl⟩, ?_⟩ | refine ⟨_, _, _, rfl, rfl, rfl, ?_⟩ | refine ⟨_, rfl, ?_⟩ | refine ⟨rfl, ?_⟩ | refine ⟨?_, Nat.le_of_ble_eq_true rfl⟩ | refine o_mod (by omega) ?_ | refine o_mul (mul64 (by omega) (by omega)) ?_)
      refine s_pop rfl getLast_IL ?_
      have e0 : a = 0 := by simpa using h
      refine ⟨zs.length, by rw [← hn]; simp, zs, by simp [IL], rfl, ?_⟩
      rw [← ht, e0, trimI_zero]
    · repeat (first | refine s_last ?_ | refine s_seq ?_ | refine s_asgN ?_ | refine s_bin ?_ | refine s_un ?_ | refine s_C ?_ | refine s_var rfl ?_ | refine s_ixV rfl ?_ | refine s_ixO rfl ?_ | refine s_cons ?_ | refine s_nil ?_ | refine s_call ?_ | refine s_callL ?_ | refine s_test ?_ | refine s_tru ?_ | refine s_truV rfl ?_ | refine s_truO rfl ?_ | refine s_len rfl ?_ | refine s_lenO rfl ?_ | refine s_notT ?_ | refine s_notX ?_ | refine s_notN rfl ?_ | refine s_notO rfl ?_ | refine s_and ?_ | refine s_or ?_ | refine s_tup ?_ | refine s_fz ?_ | refine s_lst ?_ | refine s_isi ?_ | refine s_andV ?_ | refine s_orV ?_ | refine s_if ?_ | refine s_chain ?_ | refine s_slX ?_ | refine s_rev ?_ | refine s_part ?_ | refine s_noPart ?_ | refine s_asgL ?_ | refine s_par ?_ | refine s_aug rfl ?_ | refine s_app rfl ?_ | refine s_ret ?_ | refine s_retV rfl ?_ | refine s_retO rfl ?_ | refine s_retL ?_ | refine s_drop ?_ | refine s_ifS ?_ | refine s_nx ?_ | refine s_setIx ?_ | refine s_items ?_ | refine s_enum ?_ | refine s_zip ?_ | refine s_rng1 ?_ | refine s_rng2 ?_ | refine s_ap ?_ | refine s_apL ?_ | refine s_yes ?_ | refine s_binL ?_ | refine o_add ?_ | refine o_sub ?_ | refine o_lt ?_ | refine o_le ?_ | refine o_gt ?_ | refine o_ge ?_ | refine o_eq ?_ | refine o_ne ?_ | refine o_neg ?_ | refine o_int1 ?_ | refine o_int1b ?_ | refine o_abs ?_ | refine o_tupleL ?_ | refine o_tupleT ?_ | refine o_lenT ?_ | refine o_lenL ?_ | refine o_addI ?_ | refine s_varO rfl ?_ | refine ⟨⟨_, rfl⟩, ?_⟩ | refine ⟨_, _, _, rfl, rfl, rfl, ?_⟩ | refine ⟨_, rfl, ?_⟩ | refine ⟨rfl, ?_⟩ | refine ⟨?_, Nat.le_of_ble_eq_true rfl⟩ | refine o_mod (by omega) ?_ | refine o_mul (mul64 (by omega) (by omega)) ?_)
      have e0 : a ≠ 0 := by simpa using h
      rw [← ht, trimI_ne zs e0]

theorem ap_law_trim {p : Int} {ns : List Int} {x : D} (hx : x = .lst (IL ns) ∨ x = .tup (IL ns)) (hp : 0 < p) (hl : ns.length ≤ cap) : Ap f_law_trim [.int p, x] (.tup (IL (trimI (ns.map (· % p))))) := by
  refine ap_fn ?_
  show (m_law_trim [.fz (.int p), .fz x, .no, .no]).sat _
  refine s_seq (s_asgL (s_map (fun d => match d with | .int i => .int (i % p) | d => d) ?_))
  repeat (first | refine s_last ?_ | refine s_seq ?_ | refine s_asgN ?_ | refine s_bin ?_ | refine s_un ?_ | refine s_C ?_ | refine s_var rfl ?_ | refine s_ixV rfl ?_ | refine s_ixO rfl ?_ | refine s_cons ?_ | refine s_nil ?_ | refine s_call ?_ | refine s_callL ?_ | refine s_test ?_ | refine s_tru ?_ | refine s_truV rfl ?_ | refine s_truO rfl ?_ | refine s_len rfl ?_ | refine s_lenO rfl ?_ | refine s_notT ?_ | refine s_notX ?_ | refine s_notN rfl ?_ | refine s_notO rfl ?_ | refine s_and ?_ | refine s_or ?_ | refine s_tup ?_ | refine s_fz ?_ | refine s_lst ?_ | refine s_isi ?_ | refine s_andV ?_ | refine s_orV ?_ | refine s_if ?_ | refine s_chain ?_ | refine s_slX ?_ | refine s_rev ?_ | refine s_part ?_ | refine s_noPart ?_ | refine s_asgL ?_ | refine s_par ?_ | refine s_aug rfl ?_ | refine s_app rfl ?_ | refine s_ret ?_ | refine s_retV rfl ?_ | refine s_retO rfl ?_ | refine s_retL ?_ | refine s_drop ?_ | refine s_ifS ?_ | refine s_nx ?_ | refine s_setIx ?_ | refine s_items ?_ | refine s_enum ?_ | refine s_zip ?_ | refine s_rng1 ?_ | refine s_rng2 ?_ | refine s_ap ?_ | refine s_apL ?_ | refine s_yes ?_ | refine s_binL ?_ | refine o_add ?_ | refine o_sub ?_ | refine o_lt ?_ | refine o_le ?_ | refine o_gt ?_ | refine o_ge ?_ | refine o_eq ?_ | refine o_ne ?_ | refine o_neg ?_ | refine o_int1 ?_ | refine o_int1b ?_ | refine o_abs ?_ | refine o_tupleL ?_ | refine o_tupleT ?_ | refine o_lenT ?_ | refine o_lenL ?_ | refine o_addI ?_ | refine s_varO rfl ?_ | refine ⟨⟨_, rfl⟩, ?_⟩ | refine ⟨_, _, _, rfl, rfl, rfl, ?_⟩ | refine ⟨_, rfl, ?_⟩ | refine ⟨rfl, ?_⟩ | refine ⟨?_, Nat.le_of_ble_eq_true rfl⟩ | refine o_mod (by omega) ?_ | refine o_mul (mul64 (by omega) (by omega)) ?_)
  refine ⟨IL ns, by rcases hx with h | h <;> simp [h], rfl, by simpa [IL] using hl, fun d hd => ?_, rfl, rfl, ?_⟩
  · obtain ⟨i, _, rfl⟩ := List.mem_map.mp hd
    refine ⟨_, rfl, ?_⟩
    repeat (first | refine s_last ?_ | refine s_seq ?_ | refine s_asgN ?_ | refine s_bin ?_ | refine s_un ?_ | refine s_C ?_ | refine s_var rfl ?_ | refine s_ixV rfl ?_ | refine s_ixO rfl ?_ | refine s_cons ?_ | refine s_nil ?_ | refine s_call ?_ | refine s_callL ?_ | refine s_test ?_ | refine s_tru ?_ | refine s_truV rfl ?_ | refine s_truO rfl ?_ | refine s_len rfl ?_ | refine s_lenO rfl ?_ | refine s_notT ?_ | refine s_notX ?_ | refine s_notN rfl ?_ | refine s_notO rfl ?_ | refine s_and ?_ | refine s_or ?_ | refine s_tup ?_ | refine s_fz ?_ | refine s_lst ?_ | refine s_isi ?_ | refine s_andV ?_ | refine s_orV ?_ | refine s_if ?_ | refine s_chain ?_ | refine s_slX ?_ | refine s_rev ?_ | refine s_part ?_ | refine s_noPart ?_ | refine s_asgL ?_ | refine s_par ?_ | refine s_aug rfl ?_ | refine s_app rfl ?_ | refine s_ret ?_ | refine s_retV rfl ?_ | refine s_retO rfl ?_ | refine s_retL ?_ | refine s_drop ?_ | refine s_ifS ?_ | refine s_nx ?_ | refine s_setIx ?_ | refine s_items ?_ | refine s_enum ?_ | refine s_zip ?_ | refine s_rng1 ?_ | refine s_rng2 ?_ | refine s_ap ?_ | refine s_apL ?_ | refine s_yes ?_ | refine s_binL ?_ | refine o_add ?_ | refine o_sub ?_ | refine o_lt ?_ | refine o_le ?_ | refine o_gt ?_ | refine o_ge ?_ | refine o_eq ?_ | refine o_ne ?_ | refine o_neg ?_ | refine o_int1 ?_ | refine o_int1b ?_ | refine o_abs ?_ | refine o_tupleL ?_ | refine o_tupleT ?_ | refine o_lenT ?_ | refine o_lenL ?_ | refine o_addI ?_ | refine s_varO rfl ?_ | refine ⟨⟨_, rfl⟩, ?_⟩ | refine ⟨_, _, _, rfl, rfl, rfl, ?_⟩ | refine ⟨_, rfl, ?_⟩ | refine ⟨rfl, ?_⟩ | refine ⟨?_, Nat.le_of_ble_eq_true rfl⟩ | refine o_mod (by omega) ?_ | refine o_mul (mul64 (by omega) (by omega)) ?_)
    rfl
  have e : (IL ns).map (fun d => match d with | .int i => .int (i % p) | d => d) = IL (ns.map (· % p)) := by simp [IL]
  rw [e]
  refine s_seq (s_while (fun n S => ∃ ys : List Int, S = [.fz (.int p), .fz x, .ow (IL ys), .no] ∧ ys.length = n ∧ trimI ys = trimI (ns.map (· % p))) (fun n S h => ?_) _ _ ⟨_, rfl, rfl, rfl⟩)
  obtain ⟨ys, rfl, hn, ht⟩ := h
  rcases List.eq_nil_or_concat ys with rfl | ⟨zs, a, rfl⟩
  · repeat (first | refine s_last ?_ | refine s_seq ?_ | refine s_asgN ?_ | refine s_bin ?_ | refine s_un ?_ | refine s_C ?_ | refine s_var rfl ?_ | refine s_ixV rfl ?_ | refine s_ixO rfl ?_ | refine s_cons ?_ | refine s_nil ?_ | refine s_call ?_ | refine s_callL ?_ | refine s_test ?_ | refine s_tru ?_ | refine s_truV rfl ?_ | refine s_truO rfl ?_ | refine s_len rfl ?_ | refine s_lenO rfl ?_ | refine s_notT ?_ | refine s_notX ?_ | refine s_notN rfl ?_ | refine s_notO rfl ?_ | refine s_and ?_ | refine s_or ?_ | refine s_tup ?_ | refine s_fz ?_ | refine s_lst ?_ | refine s_isi ?_ | refine s_andV ?_ | refine s_orV ?_ | refine s_if ?_ | refine s_chain ?_ | refine s_slX ?_ | refine s_rev ?_ | refine s_part ?_ | refine s_noPart ?_ | refine s_asgL ?_ | refine s_par ?_ | refine s_aug rfl ?_ | refine s_app rfl ?_ | refine s_ret ?_ | refine s_retV rfl ?_ | refine s_retO rfl ?_ | refine s_retL ?_ | refine s_drop ?_ | refine s_ifS ?_ | refine s_nx ?_ | refine s_setIx ?_ | refine s_items ?_ | refine s_enum ?_ | refine s_zip ?_ | refine s_rng1 ?_ | refine s_rng2 ?_ | refine s_ap ?_ | refine s_apL ?_ | refine s_yes ?_ | refine s_binL ?_ | refine o_add ?_ | refine o_sub ?_ | refine o_lt ?_ | refine o_le ?_ | refine o_gt ?_ | refine o_ge ?_ | refine o_eq ?_ | refine o_ne ?_ | refine o_neg ?_ | refine o_int1 ?_ | refine o_int1b ?_ | refine o_abs ?_ | refine o_tupleL ?_ | refine o_tupleT ?_ | refine o_lenT ?_ | refine o_lenL ?_ | refine o_addI ?_ | refine s_varO rfl ?_ | refine ⟨⟨_, rfl⟩, ?_⟩ | refine ⟨_, _, _, rfl, rfl, rfl, ?_⟩ | refine ⟨_, rfl, ?_⟩ | refine ⟨rfl, ?_⟩ | refine ⟨?_, Nat.le_of_ble_eq_true rfl⟩ | refine o_mod (by omega) ?_ | refine o_mul (mul64 (by omega) (by omega)) ?_)
    refine ⟨fun h => absurd h (by decide), fun _ => ⟨fun h => absurd h (by decide), fun _ => ⟨rfl, ?_⟩⟩⟩
    repeat (first | refine s_last ?_ | refine s_seq ?_ | refine s_asgN ?_ | refine s_bin ?_ | refine s_un ?_ | refine s_C ?_ | refine s_var rfl ?_ | refine s_ixV rfl ?_ | refine s_ixO rfl ?_ | refine s_cons ?_ | refine s_nil ?_ | refine s_call ?_ | refine s_callL ?_ | refine s_test ?_ | refine s_tru ?_ | refine s_truV rfl ?_ | refine s_truO rfl ?_ | refine s_len rfl ?_ | refine s_lenO rfl ?_ | refine s_notT ?_ | refine s_notX ?_ | refine s_notN rfl ?_ | refine s_notO rfl ?_ | refine s_and ?_ | refine s_or ?_ | refine s_tup ?_ | refine s_fz ?_ | refine s_lst ?_ | refine s_isi ?_ | refine s_andV ?_ | refine s_orV ?_ | refine s_if ?_ | refine s_chain ?_ | refine s_slX ?_ | refine s_rev ?_ | refine s_part ?_ | refine s_noPart ?_ | refine s_asgL ?_ | refine s_par ?_ | refine s_aug rfl ?_ | refine s_app rfl ?_ | refine s_ret ?_ | refine s_retV rfl ?_ | refine s_retO rfl ?_ | refine s_retL ?_ | refine s_drop ?_ | refine s_ifS ?_ | refine s_nx ?_ | refine s_setIx ?_ | refine s_items ?_ | refine s_enum ?_ | refine s_zip ?_ | refine s_rng1 ?_ | refine s_rng2 ?_ | refine s_ap ?_ | refine s_apL ?_ | refine s_yes ?_ | refine s_binL ?_ | refine o_add ?_ | refine o_sub ?_ | refine o_lt ?_ | refine o_le ?_ | refine o_gt ?_ | refine o_ge ?_ | refine o_eq ?_ | refine o_ne ?_ | refine o_neg ?_ | refine o_int1 ?_ | refine o_int1b ?_ | refine o_abs ?_ | refine o_tupleL ?_ | refine o_tupleT ?_ | refine o_lenT ?_ | refine o_lenL ?_ | refine o_addI ?_ | refine s_varO rfl ?_ | refine ⟨⟨_, rfl⟩, ?_⟩ | refine ⟨_, _, _, rfl, rfl, rfl, ?_⟩ | refine ⟨_, rfl, ?_⟩ | refine ⟨rfl, ?_⟩ | refine ⟨?_, Nat.le_of_ble_eq_true rfl⟩ | refine o_mod (by omega) ?_ | refine o_mul (mul64 (by omega) (by omega)) ?_)
    rw [← ht]
    rfl
  · rw [List.concat_eq_append] at hn ht ⊢
    repeat (first | refine s_last ?_ | refine s_seq ?_ | refine s_asgN ?_ | refine s_bin ?_ | refine s_un ?_ | refine s_C ?_ | refine s_var rfl ?_ | refine s_ixV rfl ?_ | refine s_ixO rfl ?_ | refine s_cons ?_ | refine s_nil ?_ | refine s_call ?_ | refine s_callL ?_ | refine s_test ?_ | refine s_tru ?_ | refine s_truV rfl ?_ | refine s_truO rfl ?_ | refine s_len rfl ?_ | refine s_lenO rfl ?_ | refine s_notT ?_ | refine s_notX ?_ | refine s_notN rfl ?_ | refine s_notO rfl ?_ | refine s_and ?_ | refine s_or ?_ | refine s_tup ?_ | refine s_fz ?_ | refine s_lst ?_ | refine s_isi ?_ | refine s_andV ?_ | refine s_orV ?_ | refine s_if ?_ | refine s_chain ?_ | refine s_slX ?_ | refine s_rev ?_ | refine s_part ?_ | refine s_noPart ?_ | refine s_asgL ?_ | refine s_par ?_ | refine s_aug rfl ?_ | refine s_app rfl ?_ | refine s_ret ?_ | refine s_retV rfl ?_ | refine s_retO rfl ?_ | refine s_retL ?_ | refine s_drop ?_ | refine s_ifS ?_ | refine s_nx ?_ | refine s_setIx ?_ | refine s_items ?_ | refine s_enum ?_ | refine s_zip ?_ | refine s_rng1 ?_ | refine s_rng2 ?_ | refine s_ap ?_ | refine s_apL ?_ | refine s_yes ?_ | refine s_binL ?_ | refine o_add ?_ | refine o_sub ?_ | refine o_lt ?_ | refine o_le ?_ | refine o_gt ?_ | refine o_ge ?_ | refine o_eq ?_ | refine o_ne ?_ | refine o_neg ?_ | refine o_int1 ?_ | refine o_int1b ?_ | refine o_abs ?_ | refine o_tupleL ?_ | refine o_tupleT ?_ | refine o_lenT ?_ | refine o_lenL ?_ | refine o_addI ?_ | refine s_varO rfl ?_ | refine ⟨⟨_, rfl⟩, ?_⟩ | refine ⟨_, _, _, rfl, rfl, rfl, ?_⟩ | refine ⟨_, rfl, ?_⟩ | refine ⟨rfl, ?_⟩ | refine ⟨?_, Nat.le_of_ble_eq_true rfl⟩ | refine o_mod (by omega) ?_ | refine o_mul (mul64 (by omega) (by omega)) ?_)
    refine ⟨fun _ => ?_, fun h => ?_⟩
    · repeat (first | refine s_last ?_ | refine s_seq ?_ | refine s_asgN ?_ | refine s_bin ?_ | refine s_un ?_ | refine s_C ?_ | refine s_var rfl ?_ | refine s_ixV rfl ?_ | refine s_ixO rfl ?_ | refine s_cons ?_ | refine s_nil ?_ | refine s_call ?_ | refine s_callL ?_ | refine s_test ?_ | refine s_tru ?_ | refine s_truV rfl ?_ | refine s_truO rfl ?_ | refine s_len rfl ?_ | refine s_lenO rfl ?_ | refine s_notT ?_ | refine s_notX ?_ | refine s_notN rfl ?_ | refine s_notO rfl ?_ | refine s_and ?_ | refine s_or ?_ | refine s_tup ?_ | refine s_fz ?_ | refine s_lst ?_ | refine s_isi ?_ | refine s_andV ?_ | refine s_orV ?_ | refine s_if ?_ | refine s_chain ?_ | refine s_slX ?_ | refine s_rev ?_ | refine s_part ?_ | refine s_noPart ?_ | refine s_asgL ?_ | refine s_par ?_ | refine s_aug rfl ?_ | refine s_app rfl ?_ | refine s_ret ?_ | refine s_retV rfl ?_ | refine s_retO rfl ?_ | refine s_retL ?_ | refine s_drop ?_ | refine s_ifS ?_ | refine s_nx ?_ | refine s_setIx ?_ | refine s_items ?_ | refine s_enum ?_ | refine s_zip ?_ | refine s_rng1 ?_ | refine s_rng2 ?_ | refine s_ap ?_ | refine s_apL ?_ | refine s_yes ?_ | refine s_binL ?_ | refine o_add ?_ | refine o_sub ?_ | refine o_lt ?_ | refine o_le ?_ | refine o_gt ?_ | refine o_ge ?_ | refine o_eq ?_ | refine o_ne ?_ | refine o_neg ?_ | refine o_int1 ?_ | refine o_int1b ?_ | refine o_abs ?_ | refine o_tupleL ?_ | refine o_tupleT ?_ | refine o_lenT ?_ | refine o_lenL ?_ | refine o_addI ?_ | refine s_varO rfl ?_ | refine ⟨⟨_, rfl⟩, ?_⟩ | refine ⟨_, _, _, rfl, rfl, rfl, ?_⟩ | refine ⟨_, rfl, ?_⟩ | refine ⟨rfl, ?_⟩ | refine ⟨?_, Nat.le_of_ble_eq_true rfl⟩ | refine o_mod (by omega) ?_ | refine o_mul (mul64 (by omega) (by omega)) ?_)
      refine ⟨_, ixLast, ?_⟩
      repeat (first | refine s_last ?_ | refine s_seq ?_ | refine s_asgN ?_ | refine s_bin ?_ | refine s_un ?_ | refine s_C ?_ | refine s_var rfl ?_ | refine s_ixV rfl ?_ | refine s_ixO rfl ?_ | refine s_cons ?_ | refine s_nil ?_ | refine s_call ?_ | refine s_callL ?_ | refine s_test ?_ | refine s_tru ?_ | refine s_truV rfl ?_ | refine s_truO rfl ?_ | refine s_len rfl ?_ | refine s_lenO rfl ?_ | refine s_notT ?_ | refine s_notX ?_ | refine s_notN rfl ?_ | refine s_notO rfl ?_ | refine s_and ?_ | refine s_or ?_ | refine s_tup ?_ | refine s_fz ?_ | refine s_lst ?_ | refine s_isi ?_ | refine s_andV ?_ | refine s_orV ?_ | refine s_if ?_ | refine s_chain ?_ | refine s_slX ?_ | refine s_rev ?_ | refine s_part ?_ | refine s_noPart ?_ | refine s_asgL ?_ | refine s_par ?_ | refine s_aug rfl ?_ | refine s_app rfl ?_ | refine s_ret ?_ | refine s_retV rfl ?_ | refine s_retO rfl ?_ | refine s_retL ?_ | refine s_drop ?_ | refine s_ifS ?_ | refine s_nx ?_ | refine s_setIx ?_ | refine s_items ?_ | refine s_enum ?_ | refine s_zip ?_ | refine s_rng1 ?_ | refine s_rng2 ?_ | refine s_ap ?_ | refine s_apL ?_ | refine s_yes ?_ | refine s_binL ?_ | refine o_add ?_ | refine o_sub ?_ | refine o_lt ?_ | refine o_le ?_ | refine o_gt ?_ | refine o_ge ?_ | refine o_eq ?_ | refine o_ne ?_ | refine o_neg ?_ | refine o_int1 ?_ | refine o_int1b ?_ | refine o_abs ?_ | refine o_tupleL ?_ | refine o_tupleT ?_ | refine o_lenT ?_ | refine o_lenL ?_ | refine o_addI ?_ | refine s_varO rfl ?_ | refine ⟨⟨_, rfl⟩, ?_⟩ | refine ⟨_, _, _, rfl, rfl, rfl, ?_⟩ | refine ⟨_, rfl, ?_⟩ | refine ⟨rfl, ?_⟩ | refine ⟨?_, Nat.le_of_ble_eq_true rfl⟩ | refine o_mod (by omega) ?_ | refine o_mul (mul64 (by omega) (by omega)) ?_)
      refine ⟨fun h => ?_, fun h => ⟨rfl, ?_⟩⟩
      · repeat (first | refine s_last ?_ | refine s_seq ?_ | refine s_asgN ?_ | refine s_bin ?_ | refine s_un ?_ | refine s_C ?_ | refine s_var rfl ?_ | refine s_ixV rfl ?_ | refine s_ixO rfl ?_ | refine s_cons ?_ | refine s_nil ?_ | refine s_call ?_ | refine s_callL ?_ | refine s_test ?_ | refine s_tru ?_ | refine s_truV rfl ?_ | refine s_truO rfl ?_ | refine s_len rfl ?_ | refine s_lenO rfl ?_ | refine s_notT ?_ | refine s_notX ?_ | refine s_notN rfl ?_ | refine s_notO rfl ?_ | refine s_and ?_ | refine s_or ?_ | refine s_tup ?_ | refine s_fz ?_ | refine s_lst ?_ | refine s_isi ?_ | refine s_andV ?_ | refine s_orV ?_ | refine s_if ?_ | refine s_chain ?_ | refine s_slX ?_ | refine s_rev ?_ | refine s_part ?_ | refine s_noPart ?_ | refine s_asgL ?_ | refine s_par ?_ | refine s_aug rfl ?_ | refine s_app rfl ?_ | refine s_ret ?_ | refine s_retV rfl ?_ | refine s_retO rfl ?_ | refine s_retL ?_ | refine s_drop ?_ | refine s_ifS ?_ | refine s_nx ?_ | refine s_setIx ?_ | refine s_items ?_ | refine s_enum ?_ | refine s_zip ?_ | refine s_rng1 ?_ | refine s_rng2 ?_ | refine s_ap ?_ | refine s_apL ?_ | refine s_yes ?_ | refine s_binL ?_ | refine o_add ?_ | refine o_sub ?_ | refine o_lt ?_ | refine o_le ?_ | refine o_gt ?_ | refine o_ge ?_ | refine o_eq ?_ | refine o_ne ?_ | refine o_neg ?_ | refine o_int1 ?_ | refine o_int1b ?_ | refine o_abs ?_ | refine o_tupleL ?_ | refine o_tupleT ?_ | refine o_lenT ?_ | refine o_lenL ?_ | refine o_addI ?_ | refine s_varO rfl ?_ | refine ⟨⟨_, rfl⟩, ?_⟩ | refine ⟨_, _, _, rfl, rfl, rfl, ?_⟩ | refine ⟨_, rfl, ?_⟩ | refine ⟨rfl, ?_⟩ | refine ⟨?_, Nat.le_of_ble_eq_true rfl⟩ | refine o_mod (by omega) ?_ | refine o_mul (mul64 (by omega) (by omega)) ?_)
        refine s_pop rfl getLast_IL ?_
        have e0 : a = 0 := by simpa using h
        refine ⟨zs.length, by rw [← hn]; simp, zs, by simp [IL], rfl, ?_⟩
        rw [← ht, e0, trimI_zero]
      · repeat (first | refine s_last ?_ | refine s_seq ?_ | refine s_asgN ?_ | refine s_bin ?_ | refine s_un ?_ | refine s_C ?_ | refine s_var rfl ?_ | refine s_ixV rfl ?_ | refine s_ixO rfl ?_ | refine s_cons ?_ | refine s_nil ?_ | refine s_call ?_ | refine s_callL ?_ | refine s_test ?_ | refine s_tru ?_ | refine s_truV rfl ?_ | refine s_truO rfl ?_ | refine s_len rfl ?_ | refine s_lenO rfl ?_ | refine s_notT ?_ | refine s_notX ?_ | refine s_notN rfl ?_ | refine s_notO rfl ?_ | refine s_and ?_ | refine s_or ?_ | refine s_tup ?_ | refine s_fz ?_ | refine s_lst ?_ | refine s_isi ?_ | refine s_andV ?_ | refine s_orV ?_ | refine s_if ?_ | refine s_chain ?_ | refine s_slX ?_ | refine s_rev ?_ | refine s_part ?_ | refine s_noPart ?_ | refine s_asgL ?_ | refine s_par ?_ | refine s_aug rfl ?_ | refine s_app rfl ?_ | refine s_ret ?_ | refine s_retV rfl ?_ | refine s_retO rfl ?_ | refine s_retL ?_ | refine s_drop ?_ | refine s_ifS ?_ | refine s_nx ?_ | refine s_setIx ?_ | refine s_items ?_ | refine s_enum ?_ | refine s_zip ?_ | refine s_rng1 ?_ | refine s_rng2 ?_ | refine s_ap ?_ | refine s_apL ?_ | refine s_yes ?_ | refine s_binL ?_ | refine o_add ?_ | refine o_sub ?_ | refine o_lt ?_ | refine o_le ?_ | refine o_gt ?_ | refine o_ge ?_ | refine o_eq ?_ | refine o_ne ?_ | refine o_neg ?_ | refine o_int1 ?_ | refine o_int1b ?_ | refine o_abs ?_ | refine o_tupleL ?_ | refine o_tupleT ?_ | refine o_lenT ?_ | refine o_lenL ?_ | refine o_addI ?_ | refine s_varO rfl ?_ | refine ⟨⟨_, rfl⟩, ?_⟩ | refine ⟨_, _, _, rfl, rfl, rfl, ?_⟩ | refine ⟨_, rfl, ?_⟩ | refine ⟨rfl, ?_⟩ | refine ⟨?_, Nat.le_of_ble_eq_true rfl⟩ | refine o_mod (by omega) ?_ | refine o_mul (mul64 (by omega) (by omega)) ?_)
        have e0 : a ≠ 0 := by simpa using h
        rw [← ht, trimI_ne zs e0]
    · have h2 := of_decide_eq_false h
      simp [IL] at h2

/-! ### kinds -/
def isIntB : D → Bool
  | .int _ => true | .bl _ => true | _ => false
def isBoolD : D → Bool
  | .bl _ => true | _ => false
def isTupD : D → Bool
  | .tup _ => true | _ => false
def isListD : D → Bool
  | .lst _ => true | .scr _ => true | _ => false
theorem isi_int {d : D} (h : d.isIns = false) : dIsi "int" d = some (.bl (isIntB d)) := by
  have k1 : kitB "NoneType" "int" = some false := by decide +kernel
  have k2 : kitB "bool" "int" = some true := by decide +kernel
  have k3 : kitB "int" "int" = some true := by decide +kernel
  have k4 : kitB "str" "int" = some false := by decide +kernel
  have k5 : kitB "list" "int" = some false := by decide +kernel
  have k6 : kitB "tuple" "int" = some false := by decide +kernel
  unfold dIsi
  rw [h, if_neg (by decide)]
  cases d with
  | ins _ _ _ => exact (Bool.false_ne_true h.symm).elim
  | _ => simp_all [D.ty, isTupD, isBoolD, isListD, isIntB]
theorem isi_bool {d : D} (h : d.isIns = false) : dIsi "bool" d = some (.bl (isBoolD d)) := by
  have k1 : kitB "NoneType" "bool" = some false := by decide +kernel
  have k2 : kitB "bool" "bool" = some true := by decide +kernel
  have k3 : kitB "int" "bool" = some false := by decide +kernel
  have k4 : kitB "str" "bool" = some false := by decide +kernel
  have k5 : kitB "list" "bool" = some false := by decide +kernel
  have k6 : kitB "tuple" "bool" = some false := by decide +kernel
  unfold dIsi
  rw [h, if_neg (by decide)]
  cases d with
  | ins _ _ _ => exact (Bool.false_ne_true h.symm).elim
  | _ => simp_all [D.ty, isTupD, isBoolD, isListD, isIntB]
theorem isi_tuple {d : D} (h : d.isIns = false) : dIsi "tuple" d = some (.bl (isTupD d)) := by
  have k1 : kitB "NoneType" "tuple" = some false := by decide +kernel
  have k2 : kitB "bool" "tuple" = some false := by decide +kernel
  have k3 : kitB "int" "tuple" = some false := by decide +kernel
  have k4 : kitB "str" "tuple" = some false := by decide +kernel
  have k5 : kitB "list" "tuple" = some false := by decide +kernel
  have k6 : kitB "tuple" "tuple" = some true := by decide +kernel
  unfold dIsi
  rw [h, if_neg (by decide)]
  cases d with
  | ins _ _ _ => exact (Bool.false_ne_true h.symm).elim
  | _ => simp_all [D.ty, isTupD, isBoolD, isListD, isIntB]
theorem isi_list {d : D} (h : d.isIns = false) : dIsi "list" d = some (.bl (isListD d)) := by
  have k1 : kitB "NoneType" "list" = some false := by decide +kernel
  have k2 : kitB "bool" "list" = some false := by decide +kernel
  have k3 : kitB "int" "list" = some false := by decide +kernel
  have k4 : kitB "str" "list" = some false := by decide +kernel
  have k5 : kitB "list" "list" = some true := by decide +kernel
  have k6 : kitB "tuple" "list" = some false := by decide +kernel
  unfold dIsi
  rw [h, if_neg (by decide)]
  cases d with
  | ins _ _ _ => exact (Bool.false_ne_true h.symm).elim
  | _ => simp_all [D.ty, isTupD, isBoolD, isListD, isIntB]
def isIntD : D → Bool
  | .int _ => true | _ => false
theorem ap_is_integer {d : D} (h : d.isIns = false) : Ap f_is_integer [d] (.bl (isIntD d)) := by
  refine ap_fn ?_
  show (m_is_integer [.fz d]).sat _
  repeat (first | refine s_last ?_ | refine s_seq ?_ | refine s_asgN ?_ | refine s_bin ?_ | refine s_un ?_ | refine s_C ?_ | refine s_var rfl ?_ | refine s_ixV rfl ?_ | refine s_ixO rfl ?_ | refine s_cons ?_ | refine s_nil ?_ | refine s_call ?_ | refine s_callL ?_ | refine s_test ?_ | refine s_tru ?_ | refine s_truV rfl ?_ | refine s_truO rfl ?_ | refine s_len rfl ?_ | refine s_lenO rfl ?_ | refine s_notT ?_ | refine s_notX ?_ | refine s_notN rfl ?_ | refine s_notO rfl ?_ | refine s_and ?_ | refine s_or ?_ | refine s_tup ?_ | refine s_fz ?_ | refine s_lst ?_ | refine s_isi ?_ | refine s_andV ?_ | refine s_orV ?_ | refine s_if ?_ | refine s_chain ?_ | refine s_slX ?_ | refine s_rev ?_ | refine s_part ?_ | refine s_noPart ?_ | refine s_asgL ?_ | refine s_par ?_ | refine s_aug rfl ?_ | refine s_app rfl ?_ | refine s_ret ?_ | refine s_retV rfl ?_ | refine s_retO rfl ?_ | refine s_retL ?_ | refine s_drop ?_ | refine s_ifS ?_ | refine s_nx ?_ | refine s_setIx ?_ | refine s_items ?_ | refine s_enum ?_ | refine s_zip ?_ | refine s_rng1 ?_ | refine s_rng2 ?_ | refine s_ap ?_ | refine s_apL ?_ | refine s_yes ?_ | refine s_binL ?_ | refine o_add ?_ | refine o_sub ?_ | refine o_lt ?_ | refine o_le ?_ | refine o_gt ?_ | refine o_ge ?_ | refine o_eq ?_ | refine o_ne ?_ | refine o_neg ?_ | refine o_int1 ?_ | refine o_int1b ?_ | refine o_abs ?_ | refine o_tupleL ?_ | refine o_tupleT ?_ | refine o_lenT ?_ | refine o_lenL ?_ | refine o_addI ?_ | refine s_varO rfl ?_ | refine ⟨⟨_, rfl⟩, ?_⟩ | refine ⟨_, _, _, rfl, rfl, rfl, ?_⟩ | refine ⟨_, rfl, ?_⟩ | refine ⟨rfl, ?_⟩ | refine ⟨?_, Nat.le_of_ble_eq_true rfl⟩ | refine o_mod (by omega) ?_ | refine o_mul (mul64 (by omega) (by omega)) ?_)
  refine ⟨_, isi_int h, _, rfl, fun hb => ?_, fun hb => ?_⟩
  · repeat (first | refine s_last ?_ | refine s_seq ?_ | refine s_asgN ?_ | refine s_bin ?_ | refine s_un ?_ | refine s_C ?_ | refine s_var rfl ?_ | refine s_ixV rfl ?_ | refine s_ixO rfl ?_ | refine s_cons ?_ | refine s_nil ?_ | refine s_call ?_ | refine s_callL ?_ | refine s_test ?_ | refine s_tru ?_ | refine s_truV rfl ?_ | refine s_truO rfl ?_ | refine s_len rfl ?_ | refine s_lenO rfl ?_ | refine s_notT ?_ | refine s_notX ?_ | refine s_notN rfl ?_ | refine s_notO rfl ?_ | refine s_and ?_ | refine s_or ?_ | refine s_tup ?_ | refine s_fz ?_ | refine s_lst ?_ | refine s_isi ?_ | refine s_andV ?_ | refine s_orV ?_ | refine s_if ?_ | refine s_chain ?_ | refine s_slX ?_ | refine s_rev ?_ | refine s_part ?_ | refine s_noPart ?_ | refine s_asgL ?_ | refine s_par ?_ | refine s_aug rfl ?_ | refine s_app rfl ?_ | refine s_ret ?_ | refine s_retV rfl ?_ | refine s_retO rfl ?_ | refine s_retL ?_ | refine s_drop ?_ | refine s_ifS ?_ | refine s_nx ?_ | refine s_setIx ?_ | refine s_items ?_ | refine s_enum ?_ | refine s_zip ?_ | refine s_rng1 ?_ | refine s_rng2 ?_ | refine s_ap ?_ | refine s_apL ?_ | refine s_yes ?_ | refine s_binL ?_ | refine o_add ?_ | refine o_sub ?_ | refine o_lt ?_ | refine o_le ?_ | refine o_gt ?_ | refine o_ge ?_ | refine o_eq ?_ | refine o_ne ?_ | refine o_neg ?_ | refine o_int1 ?_ | refine o_int1b ?_ | refine o_abs ?_ | refine o_tupleL ?_ | refine o_tupleT ?_ | refine o_lenT ?_ | refine o_lenL ?_ | refine o_addI ?_ | refine s_varO rfl ?_ | refine ⟨⟨_, rfl⟩, ?_⟩ | refine ⟨_, _, _, rfl, rfl, rfl, ?_⟩ | refine ⟨_, rfl, ?_⟩ | refine ⟨rfl, ?_⟩ | refine ⟨?_, Nat.le_of_ble_eq_true rfl⟩ | refine o_mod (by omega) ?_ | refine o_mul (mul64 (by omega) (by omega)) ?_)
    refine ⟨_, isi_bool h, ?_⟩
    repeat (first | refine s_last ?_ | refine s_seq ?_ | refine s_asgN ?_ | refine s_bin ?_ | refine s_un ?_ | refine s_C ?_ | refine s_var rfl ?_ | refine s_ixV rfl ?_ | refine s_ixO rfl ?_ | refine s_cons ?_ | refine s_nil ?_ | refine s_call ?_ | refine s_callL ?_ | refine s_test ?_ | refine s_tru ?_ | refine s_truV rfl ?_ | refine s_truO rfl ?_ | refine s_len rfl ?_ | refine s_lenO rfl ?_ | refine s_notT ?_ | refine s_notX ?_ | refine s_notN rfl ?_ | refine s_notO rfl ?_ | refine s_and ?_ | refine s_or ?_ | refine s_tup ?_ | refine s_fz ?_ | refine s_lst ?_ | refine s_isi ?_ | refine s_andV ?_ | refine s_orV ?_ | refine s_if ?_ | refine s_chain ?_ | refine s_slX ?_ | refine s_rev ?_ | refine s_part ?_ | refine s_noPart ?_ | refine s_asgL ?_ | refine s_par ?_ | refine s_aug rfl ?_ | refine s_app rfl ?_ | refine s_ret ?_ | refine s_retV rfl ?_ | refine s_retO rfl ?_ | refine s_retL ?_ | refine s_drop ?_ | refine s_ifS ?_ | refine s_nx ?_ | refine s_setIx ?_ | refine s_items ?_ | refine s_enum ?_ | refine s_zip ?_ | refine s_rng1 ?_ | refine s_rng2 ?_ | refine s_ap ?_ | refine s_apL ?_ | refine s_yes ?_ | refine s_binL ?_ | refine o_add ?_ | refine o_sub ?_ | refine o_lt ?_ | refine o_le ?_ | refine o_gt ?_ | refine o_ge ?_ | refine o_eq ?_ | refine o_ne ?_ | refine o_neg ?_ | refine o_int1 ?_ | refine o_int1b ?_ | refine o_abs ?_ | refine o_tupleL ?_ | refine o_tupleT ?_ | refine o_lenT ?_ | refine o_lenL ?_ | refine o_addI ?_ | refine s_varO rfl ?_ | refine ⟨⟨_, rfl⟩, ?_⟩ | refine ⟨_, _, _, rfl, rfl, rfl, ?_⟩ | refine ⟨_, rfl, ?_⟩ | refine ⟨rfl, ?_⟩ | refine ⟨?_, Nat.le_of_ble_eq_true rfl⟩ | refine o_mod (by omega) ?_ | refine o_mul (mul64 (by omega) (by omega)) ?_)
    cases d <;> simp_all [isIntD, isIntB, isBoolD, dTru]
  · cases d <;> simp_all [isIntD, isIntB]
def isCountD (l : Int) (m : Option Int) : D → Bool
  | .int i => decide (l ≤ i) && (match m with | some k => decide (i ≤ k) | none => true)
  | _ => false
theorem ap_is_count {d : D} {l k : Int} (h : d.isIns = false) : Ap f_is_count [d, .int l, .int k] (.bl (isCountD l (some k) d)) := by
  refine ap_fn ?_
  show (m_is_count [.fz d, .fz (.int l), .fz (.int k)]).sat _
  refine s_seqr ?_
  repeat (first | refine s_last ?_ | refine s_seq ?_ | refine s_asgN ?_ | refine s_bin ?_ | refine s_un ?_ | refine s_C ?_ | refine s_var rfl ?_ | refine s_ixV rfl ?_ | refine s_ixO rfl ?_ | refine s_cons ?_ | refine s_nil ?_ | refine s_call ?_ | refine s_callL ?_ | refine s_test ?_ | refine s_tru ?_ | refine s_truV rfl ?_ | refine s_truO rfl ?_ | refine s_len rfl ?_ | refine s_lenO rfl ?_ | refine s_notT ?_ | refine s_notX ?_ | refine s_notN rfl ?_ | refine s_notO rfl ?_ | refine s_and ?_ | refine s_or ?_ | refine s_tup ?_ | refine s_fz ?_ | refine s_lst ?_ | refine s_isi ?_ | refine s_andV ?_ | refine s_orV ?_ | refine s_if ?_ | refine s_chain ?_ | refine s_slX ?_ | refine s_rev ?_ | refine s_part ?_ | refine s_noPart ?_ | refine s_asgL ?_ | refine s_par ?_ | refine s_aug rfl ?_ | refine s_app rfl ?_ | refine s_ret ?_ | refine s_retV rfl ?_ | refine s_retO rfl ?_ | refine s_retL ?_ | refine s_drop ?_ | refine s_ifS ?_ | refine s_nx ?_ | refine s_setIx ?_ | refine s_items ?_ | refine s_enum ?_ | refine s_zip ?_ | refine s_rng1 ?_ | refine s_rng2 ?_ | refine s_ap ?_ | refine s_apL ?_ | refine s_yes ?_ | refine s_binL ?_ | refine o_add ?_ | refine o_sub ?_ | refine o_lt ?_ | refine o_le ?_ | refine o_gt ?_ | refine o_ge ?_ | refine o_eq ?_ | refine o_ne ?_ | refine o_neg ?_ | refine o_int1 ?_ | refine o_int1b ?_ | refine o_abs ?_ | refine o_tupleL ?_ | refine o_tupleT ?_ | refine o_lenT ?_ | refine o_lenL ?_ | refine o_addI ?_ | refine s_varO rfl ?_ | refine ⟨⟨_, rfl⟩, ?_⟩ | refine ⟨_, _, _, rfl, rfl, rfl, ?_⟩ | refine ⟨_, rfl, ?_⟩ | refine ⟨rfl, ?_⟩ | refine ⟨?_, Nat.le_of_ble_eq_true rfl⟩ | refine o_mod (by omega) ?_ | refine o_mul (mul64 (by omega) (by omega)) ?_)
  refine ⟨_, ap_is_integer h, ?_⟩
  repeat (first | refine s_last ?_ | refine s_seq ?_ | refine s_asgN ?_ | refine s_bin ?_ | refine s_un ?_ | refine s_C ?_ | refine s_var rfl ?_ | refine s_ixV rfl ?_ | refine s_ixO rfl ?_ | refine s_cons ?_ | refine s_nil ?_ | refine s_call ?_ | refine s_callL ?_ | refine s_test ?_ | refine s_tru ?_ | refine s_truV rfl ?_ | refine s_truO rfl ?_ | refine s_len rfl ?_ | refine s_lenO rfl ?_ | refine s_notT ?_ | refine s_notX ?_ | refine s_notN rfl ?_ | refine s_notO rfl ?_ | refine s_and ?_ | refine s_or ?_ | refine s_tup ?_ | refine s_fz ?_ | refine s_lst ?_ | refine s_isi ?_ | refine s_andV ?_ | refine s_orV ?_ | refine s_if ?_ | refine s_chain ?_ | refine s_slX ?_ | refine s_rev ?_ | refine s_part ?_ | refine s_noPart ?_ | refine s_asgL ?_ | refine s_par ?_ | refine s_aug rfl ?_ | refine s_app rfl ?_ | refine s_ret ?_ | refine s_retV rfl ?_ | refine s_retO rfl ?_ | refine s_retL ?_ | refine s_drop ?_ | refine s_ifS ?_ | refine s_nx ?_ | refine s_setIx ?_ | refine s_items ?_ | refine s_enum ?_ | refine s_zip ?_ | refine s_rng1 ?_ | refine s_rng2 ?_ | refine s_ap ?_ | refine s_apL ?_ | refine s_yes ?_ | refine s_binL ?_ | refine o_add ?_ | refine o_sub ?_ | refine o_lt ?_ | refine o_le ?_ | refine o_gt ?_ | refine o_ge ?_ | refine o_eq ?_ | refine o_ne ?_ | refine o_neg ?_ | refine o_int1 ?_ | refine o_int1b ?_ | refine o_abs ?_ | refine o_tupleL ?_ | refine o_tupleT ?_ | refine o_lenT ?_ | refine o_lenL ?_ | refine o_addI ?_ | refine s_varO rfl ?_ | refine ⟨⟨_, rfl⟩, ?_⟩ | refine ⟨_, _, _, rfl, rfl, rfl, ?_⟩ | refine ⟨_, rfl, ?_⟩ | refine ⟨rfl, ?_⟩ | refine ⟨?_, Nat.le_of_ble_eq_true rfl⟩ | refine o_mod (by omega) ?_ | refine o_mul (mul64 (by omega) (by omega)) ?_)
  cases d with
  | int i =>
    refine ⟨fun z => (Bool.false_ne_true z).elim, fun _ => ?_⟩
    repeat (first | refine s_last ?_ | refine s_seq ?_ | refine s_asgN ?_ | refine s_bin ?_ | refine s_un ?_ | refine s_C ?_ | refine s_var rfl ?_ | refine s_ixV rfl ?_ | refine s_ixO rfl ?_ | refine s_cons ?_ | refine s_nil ?_ | refine s_call ?_ | refine s_callL ?_ | refine s_test ?_ | refine s_tru ?_ | refine s_truV rfl ?_ | refine s_truO rfl ?_ | refine s_len rfl ?_ | refine s_lenO rfl ?_ | refine s_notT ?_ | refine s_notX ?_ | refine s_notN rfl ?_ | refine s_notO rfl ?_ | refine s_and ?_ | refine s_or ?_ | refine s_tup ?_ | refine s_fz ?_ | refine s_lst ?_ | refine s_isi ?_ | refine s_andV ?_ | refine s_orV ?_ | refine s_if ?_ | refine s_chain ?_ | refine s_slX ?_ | refine s_rev ?_ | refine s_part ?_ | refine s_noPart ?_ | refine s_asgL ?_ | refine s_par ?_ | refine s_aug rfl ?_ | refine s_app rfl ?_ | refine s_ret ?_ | refine s_retV rfl ?_ | refine s_retO rfl ?_ | refine s_retL ?_ | refine s_drop ?_ | refine s_ifS ?_ | refine s_nx ?_ | refine s_setIx ?_ | refine s_items ?_ | refine s_enum ?_ | refine s_zip ?_ | refine s_rng1 ?_ | refine s_rng2 ?_ | refine s_ap ?_ | refine s_apL ?_ | refine s_yes ?_ | refine s_binL ?_ | refine o_add ?_ | refine o_sub ?_ | refine o_lt ?_ | refine o_le ?_ | refine o_gt ?_ | refine o_ge ?_ | refine o_eq ?_ | refine o_ne ?_ | refine o_neg ?_ | refine o_int1 ?_ | refine o_int1b ?_ | refine o_abs ?_ | refine o_tupleL ?_ | refine o_tupleT ?_ | refine o_lenT ?_ | refine o_lenL ?_ | refine o_addI ?_ | refine s_varO rfl ?_ | refine ⟨⟨_, rfl⟩, ?_⟩ | refine ⟨_, _, _, rfl, rfl, rfl, ?_⟩ | refine ⟨_, rfl, ?_⟩ | refine ⟨rfl, ?_⟩ | refine ⟨?_, Nat.le_of_ble_eq_true rfl⟩ | refine o_mod (by omega) ?_ | refine o_mul (mul64 (by omega) (by omega)) ?_)
    refine ⟨fun hb => ?_, fun hb => ?_⟩
    · repeat (first | refine s_last ?_ | refine s_seq ?_ | refine s_asgN ?_ | refine s_bin ?_ | refine s_un ?_ | refine s_C ?_ | refine s_var rfl ?_ | refine s_ixV rfl ?_ | refine s_ixO rfl ?_ | refine s_cons ?_ | refine s_nil ?_ | refine s_call ?_ | refine s_callL ?_ | refine s_test ?_ | refine s_tru ?_ | refine s_truV rfl ?_ | refine s_truO rfl ?_ | refine s_len rfl ?_ | refine s_lenO rfl ?_ | refine s_notT ?_ | refine s_notX ?_ | refine s_notN rfl ?_ | refine s_notO rfl ?_ | refine s_and ?_ | refine s_or ?_ | refine s_tup ?_ | refine s_fz ?_ | refine s_lst ?_ | refine s_isi ?_ | refine s_andV ?_ | refine s_orV ?_ | refine s_if ?_ | refine s_chain ?_ | refine s_slX ?_ | refine s_rev ?_ | refine s_part ?_ | refine s_noPart ?_ | refine s_asgL ?_ | refine s_par ?_ | refine s_aug rfl ?_ | refine s_app rfl ?_ | refine s_ret ?_ | refine s_retV rfl ?_ | refine s_retO rfl ?_ | refine s_retL ?_ | refine s_drop ?_ | refine s_ifS ?_ | refine s_nx ?_ | refine s_setIx ?_ | refine s_items ?_ | refine s_enum ?_ | refine s_zip ?_ | refine s_rng1 ?_ | refine s_rng2 ?_ | refine s_ap ?_ | refine s_apL ?_ | refine s_yes ?_ | refine s_binL ?_ | refine o_add ?_ | refine o_sub ?_ | refine o_lt ?_ | refine o_le ?_ | refine o_gt ?_ | refine o_ge ?_ | refine o_eq ?_ | refine o_ne ?_ | refine o_neg ?_ | refine o_int1 ?_ | refine o_int1b ?_ | refine o_abs ?_ | refine o_tupleL ?_ | refine o_tupleT ?_ | refine o_lenT ?_ | refine o_lenL ?_ | refine o_addI ?_ | refine s_varO rfl ?_ | refine ⟨⟨_, rfl⟩, ?_⟩ | refine ⟨_, _, _, rfl, rfl, rfl, ?_⟩ | refine ⟨_, rfl, ?_⟩ | refine ⟨rfl, ?_⟩ | refine ⟨?_, Nat.le_of_ble_eq_true rfl⟩ | refine o_mod (by omega) ?_ | refine o_mul (mul64 (by omega) (by omega)) ?_)
      have := of_decide_eq_true hb
      simp [isCountD]
      omega
    · repeat (first | refine s_last ?_ | refine s_seq ?_ | refine s_asgN ?_ | refine s_bin ?_ | refine s_un ?_ | refine s_C ?_ | refine s_var rfl ?_ | refine s_ixV rfl ?_ | refine s_ixO rfl ?_ | refine s_cons ?_ | refine s_nil ?_ | refine s_call ?_ | refine s_callL ?_ | refine s_test ?_ | refine s_tru ?_ | refine s_truV rfl ?_ | refine s_truO rfl ?_ | refine s_len rfl ?_ | refine s_lenO rfl ?_ | refine s_notT ?_ | refine s_notX ?_ | refine s_notN rfl ?_ | refine s_notO rfl ?_ | refine s_and ?_ | refine s_or ?_ | refine s_tup ?_ | refine s_fz ?_ | refine s_lst ?_ | refine s_isi ?_ | refine s_andV ?_ | refine s_orV ?_ | refine s_if ?_ | refine s_chain ?_ | refine s_slX ?_ | refine s_rev ?_ | refine s_part ?_ | refine s_noPart ?_ | refine s_asgL ?_ | refine s_par ?_ | refine s_aug rfl ?_ | refine s_app rfl ?_ | refine s_ret ?_ | refine s_retV rfl ?_ | refine s_retO rfl ?_ | refine s_retL ?_ | refine s_drop ?_ | refine s_ifS ?_ | refine s_nx ?_ | refine s_setIx ?_ | refine s_items ?_ | refine s_enum ?_ | refine s_zip ?_ | refine s_rng1 ?_ | refine s_rng2 ?_ | refine s_ap ?_ | refine s_apL ?_ | refine s_yes ?_ | refine s_binL ?_ | refine o_add ?_ | refine o_sub ?_ | refine o_lt ?_ | refine o_le ?_ | refine o_gt ?_ | refine o_ge ?_ | refine o_eq ?_ | refine o_ne ?_ | refine o_neg ?_ | refine o_int1 ?_ | refine o_int1b ?_ | refine o_abs ?_ | refine o_tupleL ?_ | refine o_tupleT ?_ | refine o_lenT ?_ | refine o_lenL ?_ | refine o_addI ?_ | refine s_varO rfl ?_ | refine ⟨⟨_, rfl⟩, ?_⟩ | refine ⟨_, _, _, rfl, rfl, rfl, ?_⟩ | refine ⟨_, rfl, ?_⟩ | refine ⟨rfl, ?_⟩ | refine ⟨?_, Nat.le_of_ble_eq_true rfl⟩ | refine o_mod (by omega) ?_ | refine o_mul (mul64 (by omega) (by omega)) ?_)
      have := of_decide_eq_false hb
      simp [isCountD]
      omega
  | ins _ _ _ => cases h
  | _ =>
    refine ⟨fun _ => ?_, fun z => (Bool.false_ne_true z.symm).elim⟩
    refine ⟨fun _ => ?_, fun z => (Bool.false_ne_true z.symm).elim⟩
    repeat (first | refine s_last ?_ | refine s_seq ?_ | refine s_asgN ?_ | refine s_bin ?_ | refine s_un ?_ | refine s_C ?_ | refine s_var rfl ?_ | refine s_ixV rfl ?_ | refine s_ixO rfl ?_ | refine s_cons ?_ | refine s_nil ?_ | refine s_call ?_ | refine s_callL ?_ | refine s_test ?_ | refine s_tru ?_ | refine s_truV rfl ?_ | refine s_truO rfl ?_ | refine s_len rfl ?_ | refine s_lenO rfl ?_ | refine s_notT ?_ | refine s_notX ?_ | refine s_notN rfl ?_ | refine s_notO rfl ?_ | refine s_and ?_ | refine s_or ?_ | refine s_tup ?_ | refine s_fz ?_ | refine s_lst ?_ | refine s_isi ?_ | refine s_andV ?_ | refine s_orV ?_ | refine s_if ?_ | refine s_chain ?_ | refine s_slX ?_ | refine s_rev ?_ | refine s_part ?_ | refine s_noPart ?_ | refine s_asgL ?_ | refine s_par ?_ | refine s_aug rfl ?_ | refine s_app rfl ?_ | refine s_ret ?_ | refine s_retV rfl ?_ | refine s_retO rfl ?_ | refine s_retL ?_ | refine s_drop ?_ | refine s_ifS ?_ | refine s_nx ?_ | refine s_setIx ?_ | refine s_items ?_ | refine s_enum ?_ | refine s_zip ?_ | refine s_rng1 ?_ | refine s_rng2 ?_ | refine s_ap ?_ | refine s_apL ?_ | refine s_yes ?_ | refine s_binL ?_ | refine o_add ?_ | refine o_sub ?_ | refine o_lt ?_ | refine o_le ?_ | refine o_gt ?_ | refine o_ge ?_ | refine o_eq ?_ | refine o_ne ?_ | refine o_neg ?_ | refine o_int1 ?_ | refine o_int1b ?_ | refine o_abs ?_ | refine o_tupleL ?_ | refine o_tupleT ?_ | refine o_lenT ?_ | refine o_lenL ?_ | refine o_addI ?_ | refine s_varO rfl ?_ | refine ⟨⟨_, rfl⟩, ?_⟩ | refine ⟨_, _, _, rfl, rfl, rfl, ?_⟩ | refine ⟨_, rfl, ?_⟩ | refine ⟨rfl, ?_⟩ | refine ⟨?_, Nat.le_of_ble_eq_true rfl⟩ | refine o_mod (by omega) ?_ | refine o_mul (mul64 (by omega) (by omega)) ?_)
    rfl
def isPolyD (p : Int) : D → Bool
  | .tup ds => ds.all (isCountD 0 (some (p - 1))) && (match ds.getLast? with | some (.int a) => a != 0 | _ => true)
  | _ => false
theorem ap_is_polynomial {p : Int} {d : D} (h : d.isIns = false) (hs : ∀ ds, d = .tup ds → ds.length ≤ cap ∧ ∀ x ∈ ds, D.isIns x = false) : Ap f_is_polynomial [.int p, d] (.bl (isPolyD p d)) := by
  refine ap_fn ?_
  show (m_is_polynomial [.fz (.int p), .fz d, .no]).sat _
  refine s_seqr ?_
  repeat (first | refine s_last ?_ | refine s_seq ?_ | refine s_asgN ?_ | refine s_bin ?_ | refine s_un ?_ | refine s_C ?_ | refine s_var rfl ?_ | refine s_ixV rfl ?_ | refine s_ixO rfl ?_ | refine s_cons ?_ | refine s_nil ?_ | refine s_call ?_ | refine s_callL ?_ | refine s_test ?_ | refine s_tru ?_ | refine s_truV rfl ?_ | refine s_truO rfl ?_ | refine s_len rfl ?_ | refine s_lenO rfl ?_ | refine s_notT ?_ | refine s_notX ?_ | refine s_notN rfl ?_ | refine s_notO rfl ?_ | refine s_and ?_ | refine s_or ?_ | refine s_tup ?_ | refine s_fz ?_ | refine s_lst ?_ | refine s_isi ?_ | refine s_andV ?_ | refine s_orV ?_ | refine s_if ?_ | refine s_chain ?_ | refine s_slX ?_ | refine s_rev ?_ | refine s_part ?_ | refine s_noPart ?_ | refine s_asgL ?_ | refine s_par ?_ | refine s_aug rfl ?_ | refine s_app rfl ?_ | refine s_ret ?_ | refine s_retV rfl ?_ | refine s_retO rfl ?_ | refine s_retL ?_ | refine s_drop ?_ | refine s_ifS ?_ | refine s_nx ?_ | refine s_setIx ?_ | refine s_items ?_ | refine s_enum ?_ | refine s_zip ?_ | refine s_rng1 ?_ | refine s_rng2 ?_ | refine s_ap ?_ | refine s_apL ?_ | refine s_yes ?_ | refine s_binL ?_ | refine o_add ?_ | refine o_sub ?_ | refine o_lt ?_ | refine o_le ?_ | refine o_gt ?_ | refine o_ge ?_ | refine o_eq ?_ | refine o_ne ?_ | refine o_neg ?_ | refine o_int1 ?_ | refine o_int1b ?_ | refine o_abs ?_ | refine o_tupleL ?_ | refine o_tupleT ?_ | refine o_lenT ?_ | refine o_lenL ?_ | refine o_addI ?_ | refine s_varO rfl ?_ | refine ⟨⟨_, rfl⟩, ?_⟩ | refine ⟨_, _, _, rfl, rfl, rfl, ?_⟩ | refine ⟨_, rfl, ?_⟩ | refine ⟨rfl, ?_⟩ | refine ⟨?_, Nat.le_of_ble_eq_true rfl⟩ | refine o_mod (by omega) ?_ | refine o_mul (mul64 (by omega) (by omega)) ?_)
  refine ⟨_, isi_tuple h, ?_⟩
  repeat (first | refine s_last ?_ | refine s_seq ?_ | refine s_asgN ?_ | refine s_bin ?_ | refine s_un ?_ | refine s_C ?_ | refine s_var rfl ?_ | refine s_ixV rfl ?_ | refine s_ixO rfl ?_ | refine s_cons ?_ | refine s_nil ?_ | refine s_call ?_ | refine s_callL ?_ | refine s_test ?_ | refine s_tru ?_ | refine s_truV rfl ?_ | refine s_truO rfl ?_ | refine s_len rfl ?_ | refine s_lenO rfl ?_ | refine s_notT ?_ | refine s_notX ?_ | refine s_notN rfl ?_ | refine s_notO rfl ?_ | refine s_and ?_ | refine s_or ?_ | refine s_tup ?_ | refine s_fz ?_ | refine s_lst ?_ | refine s_isi ?_ | refine s_andV ?_ | refine s_orV ?_ | refine s_if ?_ | refine s_chain ?_ | refine s_slX ?_ | refine s_rev ?_ | refine s_part ?_ | refine s_noPart ?_ | refine s_asgL ?_ | refine s_par ?_ | refine s_aug rfl ?_ | refine s_app rfl ?_ | refine s_ret ?_ | refine s_retV rfl ?_ | refine s_retO rfl ?_ | refine s_retL ?_ | refine s_drop ?_ | refine s_ifS ?_ | refine s_nx ?_ | refine s_setIx ?_ | refine s_items ?_ | refine s_enum ?_ | refine s_zip ?_ | refine s_rng1 ?_ | refine s_rng2 ?_ | refine s_ap ?_ | refine s_apL ?_ | refine s_yes ?_ | refine s_binL ?_ | refine o_add ?_ | refine o_sub ?_ | refine o_lt ?_ | refine o_le ?_ | refine o_gt ?_ | refine o_ge ?_ | refine o_eq ?_ | refine o_ne ?_ | refine o_neg ?_ | refine o_int1 ?_ | refine o_int1b ?_ | refine o_abs ?_ | refine o_tupleL ?_ | refine o_tupleT ?_ | refine o_lenT ?_ | refine o_lenL ?_ | refine o_addI ?_ | refine s_varO rfl ?_ | refine ⟨⟨_, rfl⟩, ?_⟩ | refine ⟨_, _, _, rfl, rfl, rfl, ?_⟩ | refine ⟨_, rfl, ?_⟩ | refine ⟨rfl, ?_⟩ | refine ⟨?_, Nat.le_of_ble_eq_true rfl⟩ | refine o_mod (by omega) ?_ | refine o_mul (mul64 (by omega) (by omega)) ?_)
  cases d with
  | tup ds =>
    obtain ⟨hl, hi⟩ := hs ds rfl
    refine ⟨fun z => (Bool.false_ne_true z).elim, fun _ => ?_⟩
    repeat (first | refine s_last ?_ | refine s_seq ?_ | refine s_asgN ?_ | refine s_bin ?_ | refine s_un ?_ | refine s_C ?_ | refine s_var rfl ?_ | refine s_ixV rfl ?_ | refine s_ixO rfl ?_ | refine s_cons ?_ | refine s_nil ?_ | refine s_call ?_ | refine s_callL ?_ | refine s_test ?_ | refine s_tru ?_ | refine s_truV rfl ?_ | refine s_truO rfl ?_ | refine s_len rfl ?_ | refine s_lenO rfl ?_ | refine s_notT ?_ | refine s_notX ?_ | refine s_notN rfl ?_ | refine s_notO rfl ?_ | refine s_and ?_ | refine s_or ?_ | refine s_tup ?_ | refine s_fz ?_ | refine s_lst ?_ | refine s_isi ?_ | refine s_andV ?_ | refine s_orV ?_ | refine s_if ?_ | refine s_chain ?_ | refine s_slX ?_ | refine s_rev ?_ | refine s_part ?_ | refine s_noPart ?_ | refine s_asgL ?_ | refine s_par ?_ | refine s_aug rfl ?_ | refine s_app rfl ?_ | refine s_ret ?_ | refine s_retV rfl ?_ | refine s_retO rfl ?_ | refine s_retL ?_ | refine s_drop ?_ | refine s_ifS ?_ | refine s_nx ?_ | refine s_setIx ?_ | refine s_items ?_ | refine s_enum ?_ | refine s_zip ?_ | refine s_rng1 ?_ | refine s_rng2 ?_ | refine s_ap ?_ | refine s_apL ?_ | refine s_yes ?_ | refine s_binL ?_ | refine o_add ?_ | refine o_sub ?_ | refine o_lt ?_ | refine o_le ?_ | refine o_gt ?_ | refine o_ge ?_ | refine o_eq ?_ | refine o_ne ?_ | refine o_neg ?_ | refine o_int1 ?_ | refine o_int1b ?_ | refine o_abs ?_ | refine o_tupleL ?_ | refine o_tupleT ?_ | refine o_lenT ?_ | refine o_lenL ?_ | refine o_addI ?_ | refine s_varO rfl ?_ | refine ⟨⟨_, rfl⟩, ?_⟩ | refine ⟨_, _, _, rfl, rfl, rfl, ?_⟩ | refine ⟨_, rfl, ?_⟩ | refine ⟨rfl, ?_⟩ | refine ⟨?_, Nat.le_of_ble_eq_true rfl⟩ | refine o_mod (by omega) ?_ | refine o_mul (mul64 (by omega) (by omega)) ?_)
    refine s_map (fun x => .bl (isCountD 0 (some (p - 1)) x)) ?_
    repeat (first | refine s_last ?_ | refine s_seq ?_ | refine s_asgN ?_ | refine s_bin ?_ | refine s_un ?_ | refine s_C ?_ | refine s_var rfl ?_ | refine s_ixV rfl ?_ | refine s_ixO rfl ?_ | refine s_cons ?_ | refine s_nil ?_ | refine s_call ?_ | refine s_callL ?_ | refine s_test ?_ | refine s_tru ?_ | refine s_truV rfl ?_ | refine s_truO rfl ?_ | refine s_len rfl ?_ | refine s_lenO rfl ?_ | refine s_notT ?_ | refine s_notX ?_ | refine s_notN rfl ?_ | refine s_notO rfl ?_ | refine s_and ?_ | refine s_or ?_ | refine s_tup ?_ | refine s_fz ?_ | refine s_lst ?_ | refine s_isi ?_ | refine s_andV ?_ | refine s_orV ?_ | refine s_if ?_ | refine s_chain ?_ | refine s_slX ?_ | refine s_rev ?_ | refine s_part ?_ | refine s_noPart ?_ | refine s_asgL ?_ | refine s_par ?_ | refine s_aug rfl ?_ | refine s_app rfl ?_ | refine s_ret ?_ | refine s_retV rfl ?_ | refine s_retO rfl ?_ | refine s_retL ?_ | refine s_drop ?_ | refine s_ifS ?_ | refine s_nx ?_ | refine s_setIx ?_ | refine s_items ?_ | refine s_enum ?_ | refine s_zip ?_ | refine s_rng1 ?_ | refine s_rng2 ?_ | refine s_ap ?_ | refine s_apL ?_ | refine s_yes ?_ | refine s_binL ?_ | refine o_add ?_ | refine o_sub ?_ | refine o_lt ?_ | refine o_le ?_ | refine o_gt ?_ | refine o_ge ?_ | refine o_eq ?_ | refine o_ne ?_ | refine o_neg ?_ | refine o_int1 ?_ | refine o_int1b ?_ | refine o_abs ?_ | refine o_tupleL ?_ | refine o_tupleT ?_ | refine o_lenT ?_ | refine o_lenL ?_ | refine o_addI ?_ | refine s_varO rfl ?_ | refine ⟨⟨_, rfl⟩, ?_⟩ | refine ⟨_, _, _, rfl, rfl, rfl, ?_⟩ | refine ⟨_, rfl, ?_⟩ | refine ⟨rfl, ?_⟩ | refine ⟨?_, Nat.le_of_ble_eq_true rfl⟩ | refine o_mod (by omega) ?_ | refine o_mul (mul64 (by omega) (by omega)) ?_)
    refine ⟨ds, .inr (.inl rfl), rfl, hl, fun x hx => ⟨_, rfl, ?_⟩, ?_⟩
    · repeat (first | refine s_last ?_ | refine s_seq ?_ | refine s_asgN ?_ | refine s_bin ?_ | refine s_un ?_ | refine s_C ?_ | refine s_var rfl ?_ | refine s_ixV rfl ?_ | refine s_ixO rfl ?_ | refine s_cons ?_ | refine s_nil ?_ | refine s_call ?_ | refine s_callL ?_ | refine s_test ?_ | refine s_tru ?_ | refine s_truV rfl ?_ | refine s_truO rfl ?_ | refine s_len rfl ?_ | refine s_lenO rfl ?_ | refine s_notT ?_ | refine s_notX ?_ | refine s_notN rfl ?_ | refine s_notO rfl ?_ | refine s_and ?_ | refine s_or ?_ | refine s_tup ?_ | refine s_fz ?_ | refine s_lst ?_ | refine s_isi ?_ | refine s_andV ?_ | refine s_orV ?_ | refine s_if ?_ | refine s_chain ?_ | refine s_slX ?_ | refine s_rev ?_ | refine s_part ?_ | refine s_noPart ?_ | refine s_asgL ?_ | refine s_par ?_ | refine s_aug rfl ?_ | refine s_app rfl ?_ | refine s_ret ?_ | refine s_retV rfl ?_ | refine s_retO rfl ?_ | refine s_retL ?_ | refine s_drop ?_ | refine s_ifS ?_ | refine s_nx ?_ | refine s_setIx ?_ | refine s_items ?_ | refine s_enum ?_ | refine s_zip ?_ | refine s_rng1 ?_ | refine s_rng2 ?_ | refine s_ap ?_ | refine s_apL ?_ | refine s_yes ?_ | refine s_binL ?_ | refine o_add ?_ | refine o_sub ?_ | refine o_lt ?_ | refine o_le ?_ | refine o_gt ?_ | refine o_ge ?_ | refine o_eq ?_ | refine o_ne ?_ | refine o_neg ?_ | refine o_int1 ?_ | refine o_int1b ?_ | refine o_abs ?_ | refine o_tupleL ?_ | refine o_tupleT ?_ | refine o_lenT ?_ | refine o_lenL ?_ | refine o_addI ?_ | refine s_varO rfl ?_ | refine ⟨⟨_, rfl⟩, ?_⟩ | refine ⟨_, _, _, rfl, rfl, rfl, ?_⟩ | refine ⟨_, rfl, ?_⟩ | refine ⟨rfl, ?_⟩ | refine ⟨?_, Nat.le_of_ble_eq_true rfl⟩ | refine o_mod (by omega) ?_ | refine o_mul (mul64 (by omega) (by omega)) ?_)
      exact ⟨_, ap_is_count (hi x hx), rfl, rfl⟩
    repeat (first | refine s_last ?_ | refine s_seq ?_ | refine s_asgN ?_ | refine s_bin ?_ | refine s_un ?_ | refine s_C ?_ | refine s_var rfl ?_ | refine s_ixV rfl ?_ | refine s_ixO rfl ?_ | refine s_cons ?_ | refine s_nil ?_ | refine s_call ?_ | refine s_callL ?_ | refine s_test ?_ | refine s_tru ?_ | refine s_truV rfl ?_ | refine s_truO rfl ?_ | refine s_len rfl ?_ | refine s_lenO rfl ?_ | refine s_notT ?_ | refine s_notX ?_ | refine s_notN rfl ?_ | refine s_notO rfl ?_ | refine s_and ?_ | refine s_or ?_ | refine s_tup ?_ | refine s_fz ?_ | refine s_lst ?_ | refine s_isi ?_ | refine s_andV ?_ | refine s_orV ?_ | refine s_if ?_ | refine s_chain ?_ | refine s_slX ?_ | refine s_rev ?_ | refine s_part ?_ | refine s_noPart ?_ | refine s_asgL ?_ | refine s_par ?_ | refine s_aug rfl ?_ | refine s_app rfl ?_ | refine s_ret ?_ | refine s_retV rfl ?_ | refine s_retO rfl ?_ | refine s_retL ?_ | refine s_drop ?_ | refine s_ifS ?_ | refine s_nx ?_ | refine s_setIx ?_ | refine s_items ?_ | refine s_enum ?_ | refine s_zip ?_ | refine s_rng1 ?_ | refine s_rng2 ?_ | refine s_ap ?_ | refine s_apL ?_ | refine s_yes ?_ | refine s_binL ?_ | refine o_add ?_ | refine o_sub ?_ | refine o_lt ?_ | refine o_le ?_ | refine o_gt ?_ | refine o_ge ?_ | refine o_eq ?_ | refine o_ne ?_ | refine o_neg ?_ | refine o_int1 ?_ | refine o_int1b ?_ | refine o_abs ?_ | refine o_tupleL ?_ | refine o_tupleT ?_ | refine o_lenT ?_ | refine o_lenL ?_ | refine o_addI ?_ | refine s_varO rfl ?_ | refine ⟨⟨_, rfl⟩, ?_⟩ | refine ⟨_, _, _, rfl, rfl, rfl, ?_⟩ | refine ⟨_, rfl, ?_⟩ | refine ⟨rfl, ?_⟩ | refine ⟨?_, Nat.le_of_ble_eq_true rfl⟩ | refine o_mod (by omega) ?_ | refine o_mul (mul64 (by omega) (by omega)) ?_)
    have e : bls? (ds.map fun x => D.bl (isCountD 0 (some (p - 1)) x)) = some (ds.map (isCountD 0 (some (p - 1)))) := by
      rw [show (ds.map fun x => D.bl (isCountD 0 (some (p - 1)) x)) = (ds.map (isCountD 0 (some (p - 1)))).map D.bl by simp]
      exact bls?_map _
    refine ⟨.bl ((ds.map (isCountD 0 (some (p - 1)))).all id), by unfold dAll; simp only; rw [e]; rfl, ?_⟩
    repeat (first | refine s_last ?_ | refine s_seq ?_ | refine s_asgN ?_ | refine s_bin ?_ | refine s_un ?_ | refine s_C ?_ | refine s_var rfl ?_ | refine s_ixV rfl ?_ | refine s_ixO rfl ?_ | refine s_cons ?_ | refine s_nil ?_ | refine s_call ?_ | refine s_callL ?_ | refine s_test ?_ | refine s_tru ?_ | refine s_truV rfl ?_ | refine s_truO rfl ?_ | refine s_len rfl ?_ | refine s_lenO rfl ?_ | refine s_notT ?_ | refine s_notX ?_ | refine s_notN rfl ?_ | refine s_notO rfl ?_ | refine s_and ?_ | refine s_or ?_ | refine s_tup ?_ | refine s_fz ?_ | refine s_lst ?_ | refine s_isi ?_ | refine s_andV ?_ | refine s_orV ?_ | refine s_if ?_ | refine s_chain ?_ | refine s_slX ?_ | refine s_rev ?_ | refine s_part ?_ | refine s_noPart ?_ | refine s_asgL ?_ | refine s_par ?_ | refine s_aug rfl ?_ | refine s_app rfl ?_ | refine s_ret ?_ | refine s_retV rfl ?_ | refine s_retO rfl ?_ | refine s_retL ?_ | refine s_drop ?_ | refine s_ifS ?_ | refine s_nx ?_ | refine s_setIx ?_ | refine s_items ?_ | refine s_enum ?_ | refine s_zip ?_ | refine s_rng1 ?_ | refine s_rng2 ?_ | refine s_ap ?_ | refine s_apL ?_ | refine s_yes ?_ | refine s_binL ?_ | refine o_add ?_ | refine o_sub ?_ | refine o_lt ?_ | refine o_le ?_ | refine o_gt ?_ | refine o_ge ?_ | refine o_eq ?_ | refine o_ne ?_ | refine o_neg ?_ | refine o_int1 ?_ | refine o_int1b ?_ | refine o_abs ?_ | refine o_tupleL ?_ | refine o_tupleT ?_ | refine o_lenT ?_ | refine o_lenL ?_ | refine o_addI ?_ | refine s_varO rfl ?_ | refine ⟨⟨_, rfl⟩, ?_⟩ | refine ⟨_, _, _, rfl, rfl, rfl, ?_⟩ | refine ⟨_, rfl, ?_⟩ | refine ⟨rfl, ?_⟩ | refine ⟨?_, Nat.le_of_ble_eq_true rfl⟩ | refine o_mod (by omega) ?_ | refine o_mul (mul64 (by omega) (by omega)) ?_)
    refine ⟨fun hb => ?_, fun hb => ?_⟩
    · repeat (first | refine s_last ?_ | refine s_seq ?_ | refine s_asgN ?_ | refine s_bin ?_ | refine s_un ?_ | refine s_C ?_ | refine s_var rfl ?_ | refine s_ixV rfl ?_ | refine s_ixO rfl ?_ | refine s_cons ?_ | refine s_nil ?_ | refine s_call ?_ | refine s_callL ?_ | refine s_test ?_ | refine s_tru ?_ | refine s_truV rfl ?_ | refine s_truO rfl ?_ | refine s_len rfl ?_ | refine s_lenO rfl ?_ | refine s_notT ?_ | refine s_notX ?_ | refine s_notN rfl ?_ | refine s_notO rfl ?_ | refine s_and ?_ | refine s_or ?_ | refine s_tup ?_ | refine s_fz ?_ | refine s_lst ?_ | refine s_isi ?_ | refine s_andV ?_ | refine s_orV ?_ | refine s_if ?_ | refine s_chain ?_ | refine s_slX ?_ | refine s_rev ?_ | refine s_part ?_ | refine s_noPart ?_ | refine s_asgL ?_ | refine s_par ?_ | refine s_aug rfl ?_ | refine s_app rfl ?_ | refine s_ret ?_ | refine s_retV rfl ?_ | refine s_retO rfl ?_ | refine s_retL ?_ | refine s_drop ?_ | refine s_ifS ?_ | refine s_nx ?_ | refine s_setIx ?_ | refine s_items ?_ | refine s_enum ?_ | refine s_zip ?_ | refine s_rng1 ?_ | refine s_rng2 ?_ | refine s_ap ?_ | refine s_apL ?_ | refine s_yes ?_ | refine s_binL ?_ | refine o_add ?_ | refine o_sub ?_ | refine o_lt ?_ | refine o_le ?_ | refine o_gt ?_ | refine o_ge ?_ | refine o_eq ?_ | refine o_ne ?_ | refine o_neg ?_ | refine o_int1 ?_ | refine o_int1b ?_ | refine o_abs ?_ | refine o_tupleL ?_ | refine o_tupleT ?_ | refine o_lenT ?_ | refine o_lenL ?_ | refine o_addI ?_ | refine s_varO rfl ?_ | refine ⟨⟨_, rfl⟩, ?_⟩ | refine ⟨_, _, _, rfl, rfl, rfl, ?_⟩ | refine ⟨_, rfl, ?_⟩ | refine ⟨rfl, ?_⟩ | refine ⟨?_, Nat.le_of_ble_eq_true rfl⟩ | refine o_mod (by omega) ?_ | refine o_mul (mul64 (by omega) (by omega)) ?_)
      have : (ds.all (isCountD 0 (some (p - 1)))) = false := by simpa using hb
      simp [isPolyD, this]
    · repeat (first | refine s_last ?_ | refine s_seq ?_ | refine s_asgN ?_ | refine s_bin ?_ | refine s_un ?_ | refine s_C ?_ | refine s_var rfl ?_ | refine s_ixV rfl ?_ | refine s_ixO rfl ?_ | refine s_cons ?_ | refine s_nil ?_ | refine s_call ?_ | refine s_callL ?_ | refine s_test ?_ | refine s_tru ?_ | refine s_truV rfl ?_ | refine s_truO rfl ?_ | refine s_len rfl ?_ | refine s_lenO rfl ?_ | refine s_notT ?_ | refine s_notX ?_ | refine s_notN rfl ?_ | refine s_notO rfl ?_ | refine s_and ?_ | refine s_or ?_ | refine s_tup ?_ | refine s_fz ?_ | refine s_lst ?_ | refine s_isi ?_ | refine s_andV ?_ | refine s_orV ?_ | refine s_if ?_ | refine s_chain ?_ | refine s_slX ?_ | refine s_rev ?_ | refine s_part ?_ | refine s_noPart ?_ | refine s_asgL ?_ | refine s_par ?_ | refine s_aug rfl ?_ | refine s_app rfl ?_ | refine s_ret ?_ | refine s_retV rfl ?_ | refine s_retO rfl ?_ | refine s_retL ?_ | refine s_drop ?_ | refine s_ifS ?_ | refine s_nx ?_ | refine s_setIx ?_ | refine s_items ?_ | refine s_enum ?_ | refine s_zip ?_ | refine s_rng1 ?_ | refine s_rng2 ?_ | refine s_ap ?_ | refine s_apL ?_ | refine s_yes ?_ | refine s_binL ?_ | refine o_add ?_ | refine o_sub ?_ | refine o_lt ?_ | refine o_le ?_ | refine o_gt ?_ | refine o_ge ?_ | refine o_eq ?_ | refine o_ne ?_ | refine o_neg ?_ | refine o_int1 ?_ | refine o_int1b ?_ | refine o_abs ?_ | refine o_tupleL ?_ | refine o_tupleT ?_ | refine o_lenT ?_ | refine o_lenL ?_ | refine o_addI ?_ | refine s_varO rfl ?_ | refine ⟨⟨_, rfl⟩, ?_⟩ | refine ⟨_, _, _, rfl, rfl, rfl, ?_⟩ | refine ⟨_, rfl, ?_⟩ | refine ⟨rfl, ?_⟩ | refine ⟨?_, Nat.le_of_ble_eq_true rfl⟩ | refine o_mod (by omega) ?_ | refine o_mul (mul64 (by omega) (by omega)) ?_)
      have ha : (ds.all (isCountD 0 (some (p - 1)))) = true := by simpa using hb
      refine ⟨fun he => ?_, fun he => ?_⟩
      · have : ds = [] := by cases ds <;> simp_all
        subst this
        rfl
      · repeat (first | refine s_last ?_ | refine s_seq ?_ | refine s_asgN ?_ | refine s_bin ?_ | refine s_un ?_ | refine s_C ?_ | refine s_var rfl ?_ | refine s_ixV rfl ?_ | refine s_ixO rfl ?_ | refine s_cons ?_ | refine s_nil ?_ | refine s_call ?_ | refine s_callL ?_ | refine s_test ?_ | refine s_tru ?_ | refine s_truV rfl ?_ | refine s_truO rfl ?_ | refine s_len rfl ?_ | refine s_lenO rfl ?_ | refine s_notT ?_ | refine s_notX ?_ | refine s_notN rfl ?_ | refine s_notO rfl ?_ | refine s_and ?_ | refine s_or ?_ | refine s_tup ?_ | refine s_fz ?_ | refine s_lst ?_ | refine s_isi ?_ | refine s_andV ?_ | refine s_orV ?_ | refine s_if ?_ | refine s_chain ?_ | refine s_slX ?_ | refine s_rev ?_ | refine s_part ?_ | refine s_noPart ?_ | refine s_asgL ?_ | refine s_par ?_ | refine s_aug rfl ?_ | refine s_app rfl ?_ | refine s_ret ?_ | refine s_retV rfl ?_ | refine s_retO rfl ?_ | refine s_retL ?_ | refine s_drop ?_ | refine s_ifS ?_ | refine s_nx ?_ | refine s_setIx ?_ | refine s_items ?_ | refine s_enum ?_ | refine s_zip ?_ | refine s_rng1 ?_ | refine s_rng2 ?_ | refine s_ap ?_ | refine s_apL ?_ | refine s_yes ?_ | refine s_binL ?_ | refine o_add ?_ | refine o_sub ?_ | refine o_lt ?_ | refine o_le ?_ | refine o_gt ?_ | refine o_ge ?_ | refine o_eq ?_ | refine o_ne ?_ | refine o_neg ?_ | refine o_int1 ?_ | refine o_int1b ?_ | refine o_abs ?_ | refine o_tupleL ?_ | refine o_tupleT ?_ | refine o_lenT ?_ | refine o_lenL ?_ | refine o_addI ?_ | refine s_varO rfl ?_ | refine ⟨⟨_, rfl⟩, ?_⟩ | refine ⟨_, _, _, rfl, rfl, rfl, ?_⟩ | refine ⟨_, rfl, ?_⟩ | refine ⟨rfl, ?_⟩ | refine ⟨?_, Nat.le_of_ble_eq_true rfl⟩ | refine o_mod (by omega) ?_ | refine o_mul (mul64 (by omega) (by omega)) ?_)
        rcases List.eq_nil_or_concat ds with rfl | ⟨zs, a, rfl⟩
        · simp at he
        rw [List.concat_eq_append] at ha ⊢
        have hc : isCountD 0 (some (p - 1)) a = true := by simp at ha; exact ha.2
        cases a with
        | int i =>
          refine ⟨.int i, ?_, ?_⟩
          · show atI (zs ++ [.int i]) (-1) = _
            unfold atI ixN
            have h1 : (zs ++ [D.int i]).length = zs.length + 1 := by simp
            rw [h1, if_neg (by omega), if_pos (by omega)]
            show (zs ++ [D.int i])[((-1 : Int) + ((zs.length + 1 : Nat) : Int)).toNat]? = _
            rw [show ((-1 : Int) + ((zs.length + 1 : Nat) : Int)).toNat = zs.length by omega]
            simp
          · repeat (first | refine s_last ?_ | refine s_seq ?_ | refine s_asgN ?_ | refine s_bin ?_ | refine s_un ?_ | refine s_C ?_ | refine s_var rfl ?_ | refine s_ixV rfl ?_ | refine s_ixO rfl ?_ | refine s_cons ?_ | refine s_nil ?_ | refine s_call ?_ | refine s_callL ?_ | refine s_test ?_ | refine s_tru ?_ | refine s_truV rfl ?_ | refine s_truO rfl ?_ | refine s_len rfl ?_ | refine s_lenO rfl ?_ | refine s_notT ?_ | refine s_notX ?_ | refine s_notN rfl ?_ | refine s_notO rfl ?_ | refine s_and ?_ | refine s_or ?_ | refine s_tup ?_ | refine s_fz ?_ | refine s_lst ?_ | refine s_isi ?_ | refine s_andV ?_ | refine s_orV ?_ | refine s_if ?_ | refine s_chain ?_ | refine s_slX ?_ | refine s_rev ?_ | refine s_part ?_ | refine s_noPart ?_ | refine s_asgL ?_ | refine s_par ?_ | refine s_aug rfl ?_ | refine s_app rfl ?_ | refine s_ret ?_ | refine s_retV rfl ?_ | refine s_retO rfl ?_ | refine s_retL ?_ | refine s_drop ?_ | refine s_ifS ?_ | refine s_nx ?_ | refine s_setIx ?_ | refine s_items ?_ | refine s_enum ?_ | refine s_zip ?_ | refine s_rng1 ?_ | refine s_rng2 ?_ | refine s_ap ?_ | refine s_apL ?_ | refine s_yes ?_ | refine s_binL ?_ | refine o_add ?_ | refine o_sub ?_ | refine o_lt ?_ | refine o_le ?_ | refine o_gt ?_ | refine o_ge ?_ | refine o_eq ?_ | refine o_ne ?_ | refine o_neg ?_ | refine o_int1 ?_ | refine o_int1b ?_ | refine o_abs ?_ | refine o_tupleL ?_ | refine o_tupleT ?_ | refine o_lenT ?_ | refine o_lenL ?_ | refine o_addI ?_ | refine s_varO rfl ?_ | refine ⟨⟨_, rfl⟩, ?_⟩ | refine ⟨_, _, _, rfl, rfl, rfl, ?_⟩ | refine ⟨_, rfl, ?_⟩ | refine ⟨rfl, ?_⟩ | refine ⟨?_, Nat.le_of_ble_eq_true rfl⟩ | refine o_mod (by omega) ?_ | refine o_mul (mul64 (by omega) (by omega)) ?_)
            simp only [isPolyD, ha]
            simp [bne]
        | _ => simp [isCountD] at hc
  | ins _ _ _ => cases h
  | _ =>
    refine ⟨fun _ => ?_, fun z => (Bool.false_ne_true z.symm).elim⟩
    refine ⟨fun _ => ?_, fun z => (Bool.false_ne_true z.symm).elim⟩
    repeat (first | refine s_last ?_ | refine s_seq ?_ | refine s_asgN ?_ | refine s_bin ?_ | refine s_un ?_ | refine s_C ?_ | refine s_var rfl ?_ | refine s_ixV rfl ?_ | refine s_ixO rfl ?_ | refine s_cons ?_ | refine s_nil ?_ | refine s_call ?_ | refine s_callL ?_ | refine s_test ?_ | refine s_tru ?_ | refine s_truV rfl ?_ | refine s_truO rfl ?_ | refine s_len rfl ?_ | refine s_lenO rfl ?_ | refine s_notT ?_ | refine s_notX ?_ | refine s_notN rfl ?_ | refine s_notO rfl ?_ | refine s_and ?_ | refine s_or ?_ | refine s_tup ?_ | refine s_fz ?_ | refine s_lst ?_ | refine s_isi ?_ | refine s_andV ?_ | refine s_orV ?_ | refine s_if ?_ | refine s_chain ?_ | refine s_slX ?_ | refine s_rev ?_ | refine s_part ?_ | refine s_noPart ?_ | refine s_asgL ?_ | refine s_par ?_ | refine s_aug rfl ?_ | refine s_app rfl ?_ | refine s_ret ?_ | refine s_retV rfl ?_ | refine s_retO rfl ?_ | refine s_retL ?_ | refine s_drop ?_ | refine s_ifS ?_ | refine s_nx ?_ | refine s_setIx ?_ | refine s_items ?_ | refine s_enum ?_ | refine s_zip ?_ | refine s_rng1 ?_ | refine s_rng2 ?_ | refine s_ap ?_ | refine s_apL ?_ | refine s_yes ?_ | refine s_binL ?_ | refine o_add ?_ | refine o_sub ?_ | refine o_lt ?_ | refine o_le ?_ | refine o_gt ?_ | refine o_ge ?_ | refine o_eq ?_ | refine o_ne ?_ | refine o_neg ?_ | refine o_int1 ?_ | refine o_int1b ?_ | refine o_abs ?_ | refine o_tupleL ?_ | refine o_tupleT ?_ | refine o_lenT ?_ | refine o_lenL ?_ | refine o_addI ?_ | refine s_varO rfl ?_ | refine ⟨⟨_, rfl⟩, ?_⟩ | refine ⟨_, _, _, rfl, rfl, rfl, ?_⟩ | refine ⟨_, rfl, ?_⟩ | refine ⟨rfl, ?_⟩ | refine ⟨?_, Nat.le_of_ble_eq_true rfl⟩ | refine o_mod (by omega) ?_ | refine o_mul (mul64 (by omega) (by omega)) ?_)
    rfl
end Lib


set_option Elab.async false
set_option linter.all false
set_option maxRecDepth 100000
set_option maxHeartbeats 4000000
/-! Part P2: index, of_index, scaled, inverse, monic. -/
namespace Lib
open PySem PySem.Spec PyProof.Rows L2 Evl Q4

/-- the number of a list of digits, the least first -/
def idx (p : Int) : List Int → Int
  | [] => 0
  | a :: r => idx p r * p + a
def Dig (p : Int) (ns : List Int) : Prop := ∀ a ∈ ns, 0 ≤ a ∧ a < p
theorem idx_nonneg {p : Int} (hp : 0 < p) : ∀ {ns : List Int}, Dig p ns → 0 ≤ idx p ns
  | [], _ => Int.le_refl _
  | a :: r, h => by
    have h1 := h a List.mem_cons_self
    have h2 := idx_nonneg hp (ns := r) fun b hb => h b (List.mem_cons_of_mem _ hb)
    have : 0 ≤ idx p r * p := Int.mul_nonneg h2 (by omega)
    show 0 ≤ idx p r * p + a
    omega
theorem idx_lt {p : Int} (hp : 0 < p) : ∀ {ns : List Int}, Dig p ns → idx p ns < p ^ ns.length
  | [], _ => by show (0 : Int) < p ^ 0; simp
  | a :: r, h => by
    have h1 := h a List.mem_cons_self
    have h2 := idx_lt hp (ns := r) fun b hb => h b (List.mem_cons_of_mem _ hb)
    show idx p r * p + a < p ^ (r.length + 1)
    rw [Int.pow_succ]
    have : (idx p r + 1) * p ≤ p ^ r.length * p := Int.mul_le_mul_of_nonneg_right h2 (by omega)
    rw [Int.add_mul, Int.one_mul] at this
    omega
theorem pow_lt64 {p : Int} (h0 : 0 < p) (h : p < 64) (n : Nat) : (p ^ n).natAbs ≤ 2 ^ (6 * n) := by
  rw [Int.natAbs_pow, Nat.pow_mul]
  exact Nat.pow_le_pow_left (by omega) n
theorem idx_log {p : Int} {ns : List Int} (h0 : 0 < p) (h : p < 64) (hd : Dig p ns) (hl : ns.length ≤ 10000) : (idx p ns).natAbs.log2 ≤ 60000 := by
  have h1 := idx_nonneg h0 hd
  have h2 := idx_lt h0 hd
  have h3 := pow_lt64 h0 h ns.length
  refine log2_small (Nat.lt_of_lt_of_le (m := 2 ^ (6 * ns.length)) (by omega) (Nat.pow_le_pow_right (by decide) (by omega)))
theorem ap_index {p : Int} {ns : List Int} (h0 : 0 < p) (h : p < 64) (hd : Dig p ns) (hl : ns.length ≤ 10000) : Ap f_index [.int p, .tup (IL ns)] (.int (idx p ns)) := by
  refine ap_fn ?_
  show (m_index [.fz (.int p), .fz (.tup (IL ns)), .no, .no]).sat _
  repeat (first | refine s_last ?_ | refine s_seq ?_ | refine s_asgN ?_ | refine s_bin ?_ | refine s_un ?_ | refine s_C ?_ | refine s_var rfl ?_ | refine s_ixV rfl ?_ | refine s_ixO rfl ?_ | refine s_cons ?_ | refine s_nil ?_ | refine s_call ?_ | refine s_callL ?_ | refine s_test ?_ | refine s_tru ?_ | refine s_truV rfl ?_ | refine s_truO rfl ?_ | refine s_len rfl ?_ | refine s_lenO rfl ?_ | refine s_notT ?_ | refine s_notX ?_ | refine s_notN rfl ?_ | refine s_notO rfl ?_ | refine s_and ?_ | refine s_or ?_ | refine s_tup ?_ | refine s_fz ?_ | refine s_lst ?_ | refine s_isi ?_ | refine s_andV ?_ | refine s_orV ?_ | refine s_if ?_ | refine s_chain ?_ | refine s_slX ?_ | refine s_rev ?_ | refine s_part ?_ | refine s_noPart ?_ | refine s_asgL ?_ | refine s_par ?_ | refine s_aug rfl ?_ | refine s_app rfl ?_ | refine s_ret ?_ | refine s_retV rfl ?_ | refine s_retO rfl ?_ | refine s_retL ?_ | refine s_drop ?_ | refine s_ifS ?_ | refine s_nx ?_ | refine s_setIx ?_ | refine s_items ?_ | refine s_enum ?_ | refine s_zip ?_ | refine s_rng1 ?_ | refine s_rng2 ?_ | refine s_ap ?_ | refine s_apL ?_ | refine s_yes ?_ | refine s_binL ?_ | refine o_add ?_ | refine o_sub ?_ | refine o_lt ?_ | refine o_le ?_ | refine o_gt ?_ | refine o_ge ?_ | refine o_eq ?_ | refine o_ne ?_ | refine o_neg ?_ | refine o_int1 ?_ | refine o_int1b ?_ | refine o_abs ?_ | refine o_tupleL ?_ | refine o_tupleT ?_ | refine o_lenT ?_ | refine o_lenL ?_ | refine o_addI ?_ | refine s_varO rfl ?_ | refine ⟨⟨_, rfl⟩, ?_⟩ | refine ⟨_, _, _, rfl, rfl, rfl, ?_⟩ | refine ⟨_, rfl, ?_⟩ | refine ⟨rfl, ?_⟩ | refine ⟨?_, Nat.le_of_ble_eq_true rfl⟩ | refine o_mod (by omega) ?_ | refine o_mul (mul64 (by omega) (by omega)) ?_)
  refine s_for (fun ds i S => ∃ x, i ≤ ns.length ∧ S = [.fz (.int p), .fz (.tup (IL ns)), .fz (.int (idx p (ns.drop (ns.length - i)))), x]) ?_
  repeat (first | refine s_last ?_ | refine s_seq ?_ | refine s_asgN ?_ | refine s_bin ?_ | refine s_un ?_ | refine s_C ?_ | refine s_var rfl ?_ | refine s_ixV rfl ?_ | refine s_ixO rfl ?_ | refine s_cons ?_ | refine s_nil ?_ | refine s_call ?_ | refine s_callL ?_ | refine s_test ?_ | refine s_tru ?_ | refine s_truV rfl ?_ | refine s_truO rfl ?_ | refine s_len rfl ?_ | refine s_lenO rfl ?_ | refine s_notT ?_ | refine s_notX ?_ | refine s_notN rfl ?_ | refine s_notO rfl ?_ | refine s_and ?_ | refine s_or ?_ | refine s_tup ?_ | refine s_fz ?_ | refine s_lst ?_ | refine s_isi ?_ | refine s_andV ?_ | refine s_orV ?_ | refine s_if ?_ | refine s_chain ?_ | refine s_slX ?_ | refine s_rev ?_ | refine s_part ?_ | refine s_noPart ?_ | refine s_asgL ?_ | refine s_par ?_ | refine s_aug rfl ?_ | refine s_app rfl ?_ | refine s_ret ?_ | refine s_retV rfl ?_ | refine s_retO rfl ?_ | refine s_retL ?_ | refine s_drop ?_ | refine s_ifS ?_ | refine s_nx ?_ | refine s_setIx ?_ | refine s_items ?_ | refine s_enum ?_ | refine s_zip ?_ | refine s_rng1 ?_ | refine s_rng2 ?_ | refine s_ap ?_ | refine s_apL ?_ | refine s_yes ?_ | refine s_binL ?_ | refine o_add ?_ | refine o_sub ?_ | refine o_lt ?_ | refine o_le ?_ | refine o_gt ?_ | refine o_ge ?_ | refine o_eq ?_ | refine o_ne ?_ | refine o_neg ?_ | refine o_int1 ?_ | refine o_int1b ?_ | refine o_abs ?_ | refine o_tupleL ?_ | refine o_tupleT ?_ | refine o_lenT ?_ | refine o_lenL ?_ | refine o_addI ?_ | refine s_varO rfl ?_ | refine ⟨⟨_, rfl⟩, ?_⟩ | refine ⟨_, _, _, rfl, rfl, rfl, ?_⟩ | refine ⟨_, rfl, ?_⟩ | refine ⟨rfl, ?_⟩ | refine ⟨?_, Nat.le_of_ble_eq_true rfl⟩ | refine o_mod (by omega) ?_ | refine o_mul (mul64 (by omega) (by omega)) ?_)
  have hc : (IL ns).length ≤ cap := by simp [IL]; exact Nat.le_trans hl (by decide)
  refine ⟨hc, (IL ns).reverse, .inr (.inl rfl), ⟨.no, Nat.zero_le _, by simp [idx]⟩, fun i d S hi hP => ?_, fun S hP => ?_⟩
  · obtain ⟨x, hi2, rfl⟩ := hP
    have hi3 : i < ns.length := by have := (List.getElem?_eq_some_iff.mp hi).1; simpa [IL] using this
    have hdr : ns.drop (ns.length - (i + 1)) = ns[ns.length - 1 - i] :: ns.drop (ns.length - i) := by
      rw [show ns.length - (i + 1) = ns.length - 1 - i by omega, List.drop_eq_getElem_cons (by omega), show ns.length - 1 - i + 1 = ns.length - i by omega]
    have hde : d = .int ns[ns.length - 1 - i] := by
      rw [List.getElem?_reverse (by simpa [IL] using hi3)] at hi
      rw [List.length_map, List.getElem?_map, List.getElem?_eq_getElem (by omega)] at hi
      exact (Option.some.inj hi).symm
    subst hde
    refine ⟨_, rfl, ?_⟩
    repeat (first | refine s_last ?_ | refine s_seq ?_ | refine s_asgN ?_ | refine s_bin ?_ | refine s_un ?_ | refine s_C ?_ | refine s_var rfl ?_ | refine s_ixV rfl ?_ | refine s_ixO rfl ?_ | refine s_cons ?_ | refine s_nil ?_ | refine s_call ?_ | refine s_callL ?_ | refine s_test ?_ | refine s_tru ?_ | refine s_truV rfl ?_ | refine s_truO rfl ?_ | refine s_len rfl ?_ | refine s_lenO rfl ?_ | refine s_notT ?_ | refine s_notX ?_ | refine s_notN rfl ?_ | refine s_notO rfl ?_ | refine s_and ?_ | refine s_or ?_ | refine s_tup ?_ | refine s_fz ?_ | refine s_lst ?_ | refine s_isi ?_ | refine s_andV ?_ | refine s_orV ?_ | refine s_if ?_ | refine s_chain ?_ | refine s_slX ?_ | refine s_rev ?_ | refine s_part ?_ | refine s_noPart ?_ | refine s_asgL ?_ | refine s_par ?_ | refine s_aug rfl ?_ | refine s_app rfl ?_ | refine s_ret ?_ | refine s_retV rfl ?_ | refine s_retO rfl ?_ | refine s_retL ?_ | refine s_drop ?_ | refine s_ifS ?_ | refine s_nx ?_ | refine s_setIx ?_ | refine s_items ?_ | refine s_enum ?_ | refine s_zip ?_ | refine s_rng1 ?_ | refine s_rng2 ?_ | refine s_ap ?_ | refine s_apL ?_ | refine s_yes ?_ | refine s_binL ?_ | refine o_add ?_ | refine o_sub ?_ | refine o_lt ?_ | refine o_le ?_ | refine o_gt ?_ | refine o_ge ?_ | refine o_eq ?_ | refine o_ne ?_ | refine o_neg ?_ | refine o_int1 ?_ | refine o_int1b ?_ | refine o_abs ?_ | refine o_tupleL ?_ | refine o_tupleT ?_ | refine o_lenT ?_ | refine o_lenL ?_ | refine o_addI ?_ | refine s_varO rfl ?_ | refine ⟨⟨_, rfl⟩, ?_⟩ | refine ⟨_, _, _, rfl, rfl, rfl, ?_⟩ | refine ⟨_, rfl, ?_⟩ | refine ⟨rfl, ?_⟩ | refine ⟨?_, Nat.le_of_ble_eq_true rfl⟩ | refine o_mod (by omega) ?_ | refine o_mul (mul64 (by omega) (by omega)) ?_)
    have hdd : Dig p (ns.drop (ns.length - i)) := fun a ha => hd a (List.mem_of_mem_drop ha)
    have hlg := idx_log h0 h hdd (by rw [List.length_drop]; omega)
    refine o_mul (by have : p.natAbs.log2 ≤ 6 := log2_small (by omega); omega) ?_
    repeat (first | refine s_last ?_ | refine s_seq ?_ | refine s_asgN ?_ | refine s_bin ?_ | refine s_un ?_ | refine s_C ?_ | refine s_var rfl ?_ | refine s_ixV rfl ?_ | refine s_ixO rfl ?_ | refine s_cons ?_ | refine s_nil ?_ | refine s_call ?_ | refine s_callL ?_ | refine s_test ?_ | refine s_tru ?_ | refine s_truV rfl ?_ | refine s_truO rfl ?_ | refine s_len rfl ?_ | refine s_lenO rfl ?_ | refine s_notT ?_ | refine s_notX ?_ | refine s_notN rfl ?_ | refine s_notO rfl ?_ | refine s_and ?_ | refine s_or ?_ | refine s_tup ?_ | refine s_fz ?_ | refine s_lst ?_ | refine s_isi ?_ | refine s_andV ?_ | refine s_orV ?_ | refine s_if ?_ | refine s_chain ?_ | refine s_slX ?_ | refine s_rev ?_ | refine s_part ?_ | refine s_noPart ?_ | refine s_asgL ?_ | refine s_par ?_ | refine s_aug rfl ?_ | refine s_app rfl ?_ | refine s_ret ?_ | refine s_retV rfl ?_ | refine s_retO rfl ?_ | refine s_retL ?_ | refine s_drop ?_ | refine s_ifS ?_ | refine s_nx ?_ | refine s_setIx ?_ | refine s_items ?_ | refine s_enum ?_ | refine s_zip ?_ | refine s_rng1 ?_ | refine s_rng2 ?_ | refine s_ap ?_ | refine s_apL ?_ | refine s_yes ?_ | refine s_binL ?_ | refine o_add ?_ | refine o_sub ?_ | refine o_lt ?_ | refine o_le ?_ | refine o_gt ?_ | refine o_ge ?_ | refine o_eq ?_ | refine o_ne ?_ | refine o_neg ?_ | refine o_int1 ?_ | refine o_int1b ?_ | refine o_abs ?_ | refine o_tupleL ?_ | refine o_tupleT ?_ | refine o_lenT ?_ | refine o_lenL ?_ | refine o_addI ?_ | refine s_varO rfl ?_ | refine ⟨⟨_, rfl⟩, ?_⟩ | refine ⟨_, _, _, rfl, rfl, rfl, ?_⟩ | refine ⟨_, rfl, ?_⟩ | refine ⟨rfl, ?_⟩ | refine ⟨?_, Nat.le_of_ble_eq_true rfl⟩ | refine o_mod (by omega) ?_ | refine o_mul (mul64 (by omega) (by omega)) ?_)
    refine ⟨.fz (.int ns[ns.length - 1 - i]), by omega, ?_⟩
    rw [hdr]
    rfl
  · obtain ⟨x, _, rfl⟩ := hP
    repeat (first | refine s_last ?_ | refine s_seq ?_ | refine s_asgN ?_ | refine s_bin ?_ | refine s_un ?_ | refine s_C ?_ | refine s_var rfl ?_ | refine s_ixV rfl ?_ | refine s_ixO rfl ?_ | refine s_cons ?_ | refine s_nil ?_ | refine s_call ?_ | refine s_callL ?_ | refine s_test ?_ | refine s_tru ?_ | refine s_truV rfl ?_ | refine s_truO rfl ?_ | refine s_len rfl ?_ | refine s_lenO rfl ?_ | refine s_notT ?_ | refine s_notX ?_ | refine s_notN rfl ?_ | refine s_notO rfl ?_ | refine s_and ?_ | refine s_or ?_ | refine s_tup ?_ | refine s_fz ?_ | refine s_lst ?_ | refine s_isi ?_ | refine s_andV ?_ | refine s_orV ?_ | refine s_if ?_ | refine s_chain ?_ | refine s_slX ?_ | refine s_rev ?_ | refine s_part ?_ | refine s_noPart ?_ | refine s_asgL ?_ | refine s_par ?_ | refine s_aug rfl ?_ | refine s_app rfl ?_ | refine s_ret ?_ | refine s_retV rfl ?_ | refine s_retO rfl ?_ | refine s_retL ?_ | refine s_drop ?_ | refine s_ifS ?_ | refine s_nx ?_ | refine s_setIx ?_ | refine s_items ?_ | refine s_enum ?_ | refine s_zip ?_ | refine s_rng1 ?_ | refine s_rng2 ?_ | refine s_ap ?_ | refine s_apL ?_ | refine s_yes ?_ | refine s_binL ?_ | refine o_add ?_ | refine o_sub ?_ | refine o_lt ?_ | refine o_le ?_ | refine o_gt ?_ | refine o_ge ?_ | refine o_eq ?_ | refine o_ne ?_ | refine o_neg ?_ | refine o_int1 ?_ | refine o_int1b ?_ | refine o_abs ?_ | refine o_tupleL ?_ | refine o_tupleT ?_ | refine o_lenT ?_ | refine o_lenL ?_ | refine o_addI ?_ | refine s_varO rfl ?_ | refine ⟨⟨_, rfl⟩, ?_⟩ | refine ⟨_, _, _, rfl, rfl, rfl, ?_⟩ | refine ⟨_, rfl, ?_⟩ | refine ⟨rfl, ?_⟩ | refine ⟨?_, Nat.le_of_ble_eq_true rfl⟩ | refine o_mod (by omega) ?_ | refine o_mul (mul64 (by omega) (by omega)) ?_)
    have : (IL ns).reverse.length = ns.length := by simp [IL]
    rw [this, Nat.sub_self, List.drop_zero]
/-- no 0 at the end -/
def NZ : List Int → Prop
  | [] => True
  | [a] => a ≠ 0
  | _ :: b :: r => NZ (b :: r)
theorem NZ.tail {a : Int} {r : List Int} (h : NZ (a :: r)) : NZ r := by
  cases r with
  | nil => trivial
  | cons b r => exact h
theorem idx_pos {p : Int} (hp : 0 < p) : ∀ {ns : List Int}, ns ≠ [] → Dig p ns → NZ ns → 0 < idx p ns
  | [], h, _, _ => absurd rfl h
  | [a], _, hd, hz => by
    have h1 := hd a List.mem_cons_self
    have h2 : a ≠ 0 := hz
    show 0 < 0 * p + a
    omega
  | a :: b :: r, _, hd, hz => by
    have h1 := hd a List.mem_cons_self
    have h2 := idx_pos hp (ns := b :: r) (by simp) (fun c hc => hd c (List.mem_cons_of_mem _ hc)) hz
    have : 0 < idx p (b :: r) * p := Int.mul_pos h2 hp
    show 0 < idx p (b :: r) * p + a
    omega
theorem ap_of_index {p : Int} {ns : List Int} (h0 : 0 < p) (h : p < 64) (hd : Dig p ns) (hz : NZ ns) (hl : ns.length < cap) : Ap f_of_index [.int p, .int (idx p ns)] (.tup (IL ns)) := by
  refine ap_fn ?_
  show (m_of_index [.fz (.int p), .fz (.int (idx p ns)), .no]).sat _
  repeat (first | refine s_last ?_ | refine s_seq ?_ | refine s_asgN ?_ | refine s_bin ?_ | refine s_un ?_ | refine s_C ?_ | refine s_var rfl ?_ | refine s_ixV rfl ?_ | refine s_ixO rfl ?_ | refine s_cons ?_ | refine s_nil ?_ | refine s_call ?_ | refine s_callL ?_ | refine s_test ?_ | refine s_tru ?_ | refine s_truV rfl ?_ | refine s_truO rfl ?_ | refine s_len rfl ?_ | refine s_lenO rfl ?_ | refine s_notT ?_ | refine s_notX ?_ | refine s_notN rfl ?_ | refine s_notO rfl ?_ | refine s_and ?_ | refine s_or ?_ | refine s_tup ?_ | refine s_fz ?_ | refine s_lst ?_ | refine s_isi ?_ | refine s_andV ?_ | refine s_orV ?_ | refine s_if ?_ | refine s_chain ?_ | refine s_slX ?_ | refine s_rev ?_ | refine s_part ?_ | refine s_noPart ?_ | refine s_asgL ?_ | refine s_par ?_ | refine s_aug rfl ?_ | refine s_app rfl ?_ | refine s_ret ?_ | refine s_retV rfl ?_ | refine s_retO rfl ?_ | refine s_retL ?_ | refine s_drop ?_ | refine s_ifS ?_ | refine s_nx ?_ | refine s_setIx ?_ | refine s_items ?_ | refine s_enum ?_ | refine s_zip ?_ | refine s_rng1 ?_ | refine s_rng2 ?_ | refine s_ap ?_ | refine s_apL ?_ | refine s_yes ?_ | refine s_binL ?_ | refine o_add ?_ | refine o_sub ?_ | refine o_lt ?_ | refine o_le ?_ | refine o_gt ?_ | refine o_ge ?_ | refine o_eq ?_ | refine o_ne ?_ | refine o_neg ?_ | refine o_int1 ?_ | refine o_int1b ?_ | refine o_abs ?_ | refine o_tupleL ?_ | refine o_tupleT ?_ | refine o_lenT ?_ | refine o_lenL ?_ | refine o_addI ?_ | refine s_varO rfl ?_ | refine ⟨⟨_, rfl⟩, ?_⟩ | refine ⟨_, _, _, rfl, rfl, rfl, ?_⟩ | refine ⟨_, rfl, ?_⟩ | refine ⟨rfl, ?_⟩ | refine ⟨?_, Nat.le_of_ble_eq_true rfl⟩ | refine o_mod (by omega) ?_ | refine o_mul (mul64 (by omega) (by omega)) ?_)
  refine (s_while (fun n S => ∃ done rest : List Int, S = [.fz (.int p), .fz (.int (idx p rest)), .ow (IL done)] ∧ rest.length = n ∧ done ++ rest = ns) (fun n S hP => ?_) ns.length _ ⟨[], ns, rfl, rfl, rfl⟩)
  obtain ⟨done, rest, rfl, hn, he⟩ := hP
  repeat (first | refine s_last ?_ | refine s_seq ?_ | refine s_asgN ?_ | refine s_bin ?_ | refine s_un ?_ | refine s_C ?_ | refine s_var rfl ?_ | refine s_ixV rfl ?_ | refine s_ixO rfl ?_ | refine s_cons ?_ | refine s_nil ?_ | refine s_call ?_ | refine s_callL ?_ | refine s_test ?_ | refine s_tru ?_ | refine s_truV rfl ?_ | refine s_truO rfl ?_ | refine s_len rfl ?_ | refine s_lenO rfl ?_ | refine s_notT ?_ | refine s_notX ?_ | refine s_notN rfl ?_ | refine s_notO rfl ?_ | refine s_and ?_ | refine s_or ?_ | refine s_tup ?_ | refine s_fz ?_ | refine s_lst ?_ | refine s_isi ?_ | refine s_andV ?_ | refine s_orV ?_ | refine s_if ?_ | refine s_chain ?_ | refine s_slX ?_ | refine s_rev ?_ | refine s_part ?_ | refine s_noPart ?_ | refine s_asgL ?_ | refine s_par ?_ | refine s_aug rfl ?_ | refine s_app rfl ?_ | refine s_ret ?_ | refine s_retV rfl ?_ | refine s_retO rfl ?_ | refine s_retL ?_ | refine s_drop ?_ | refine s_ifS ?_ | refine s_nx ?_ | refine s_setIx ?_ | refine s_items ?_ | refine s_enum ?_ | refine s_zip ?_ | refine s_rng1 ?_ | refine s_rng2 ?_ | refine s_ap ?_ | refine s_apL ?_ | refine s_yes ?_ | refine s_binL ?_ | refine o_add ?_ | refine o_sub ?_ | refine o_lt ?_ | refine o_le ?_ | refine o_gt ?_ | refine o_ge ?_ | refine o_eq ?_ | refine o_ne ?_ | refine o_neg ?_ | refine o_int1 ?_ | refine o_int1b ?_ | refine o_abs ?_ | refine o_tupleL ?_ | refine o_tupleT ?_ | refine o_lenT ?_ | refine o_lenL ?_ | refine o_addI ?_ | refine s_varO rfl ?_ | refine ⟨⟨_, rfl⟩, ?_⟩ | refine ⟨_, _, _, rfl, rfl, rfl, ?_⟩ | refine ⟨_, rfl, ?_⟩ | refine ⟨rfl, ?_⟩ | refine ⟨?_, Nat.le_of_ble_eq_true rfl⟩ | refine o_mod (by omega) ?_ | refine o_mul (mul64 (by omega) (by omega)) ?_)
  have hdr : Dig p rest := fun a ha => hd a (by rw [← he]; exact List.mem_append_right _ ha)
  cases rest with
  | nil =>
    refine ⟨fun hb => ?_, fun _ => ⟨rfl, ?_⟩⟩
    · have := of_decide_eq_true hb
      simp [idx] at this
    · repeat (first | refine s_last ?_ | refine s_seq ?_ | refine s_asgN ?_ | refine s_bin ?_ | refine s_un ?_ | refine s_C ?_ | refine s_var rfl ?_ | refine s_ixV rfl ?_ | refine s_ixO rfl ?_ | refine s_cons ?_ | refine s_nil ?_ | refine s_call ?_ | refine s_callL ?_ | refine s_test ?_ | refine s_tru ?_ | refine s_truV rfl ?_ | refine s_truO rfl ?_ | refine s_len rfl ?_ | refine s_lenO rfl ?_ | refine s_notT ?_ | refine s_notX ?_ | refine s_notN rfl ?_ | refine s_notO rfl ?_ | refine s_and ?_ | refine s_or ?_ | refine s_tup ?_ | refine s_fz ?_ | refine s_lst ?_ | refine s_isi ?_ | refine s_andV ?_ | refine s_orV ?_ | refine s_if ?_ | refine s_chain ?_ | refine s_slX ?_ | refine s_rev ?_ | refine s_part ?_ | refine s_noPart ?_ | refine s_asgL ?_ | refine s_par ?_ | refine s_aug rfl ?_ | refine s_app rfl ?_ | refine s_ret ?_ | refine s_retV rfl ?_ | refine s_retO rfl ?_ | refine s_retL ?_ | refine s_drop ?_ | refine s_ifS ?_ | refine s_nx ?_ | refine s_setIx ?_ | refine s_items ?_ | refine s_enum ?_ | refine s_zip ?_ | refine s_rng1 ?_ | refine s_rng2 ?_ | refine s_ap ?_ | refine s_apL ?_ | refine s_yes ?_ | refine s_binL ?_ | refine o_add ?_ | refine o_sub ?_ | refine o_lt ?_ | refine o_le ?_ | refine o_gt ?_ | refine o_ge ?_ | refine o_eq ?_ | refine o_ne ?_ | refine o_neg ?_ | refine o_int1 ?_ | refine o_int1b ?_ | refine o_abs ?_ | refine o_tupleL ?_ | refine o_tupleT ?_ | refine o_lenT ?_ | refine o_lenL ?_ | refine o_addI ?_ | refine s_varO rfl ?_ | refine ⟨⟨_, rfl⟩, ?_⟩ | refine ⟨_, _, _, rfl, rfl, rfl, ?_⟩ | refine ⟨_, rfl, ?_⟩ | refine ⟨rfl, ?_⟩ | refine ⟨?_, Nat.le_of_ble_eq_true rfl⟩ | refine o_mod (by omega) ?_ | refine o_mul (mul64 (by omega) (by omega)) ?_)
      rw [← he, List.append_nil]
  | cons a r =>
    have hzr : NZ (a :: r) := by
      have : ∀ (xs ys : List Int), NZ (xs ++ ys) → ys ≠ [] → NZ ys := fun xs => by
        induction xs with
        | nil => exact fun ys h _ => h
        | cons x xs ih => exact fun ys h hy => ih ys (NZ.tail h) hy
      exact this done _ (by rw [he]; exact hz) (by simp)
    have hpos := idx_pos h0 (by simp) hdr hzr
    have ha := hdr a List.mem_cons_self
    have e1 : idx p (a :: r) % p = a := by
      show (idx p r * p + a) % p = a
      rw [Int.add_comm, Int.add_mul_emod_self_right]
      exact Int.emod_eq_of_lt ha.1 ha.2
    have e2 : idx p (a :: r) / p = idx p r := by
      show (idx p r * p + a) / p = idx p r
      rw [Int.add_comm, Int.add_mul_ediv_right _ _ (by omega), Int.ediv_eq_zero_of_lt ha.1 ha.2]
      omega
    refine ⟨fun _ => ?_, fun hb => ?_⟩
    · repeat (first | refine s_last ?_ | refine s_seq ?_ | refine s_asgN ?_ | refine s_bin ?_ | refine s_un ?_ | refine s_C ?_ | refine s_var rfl ?_ | refine s_ixV rfl ?_ | refine s_ixO rfl ?_ | refine s_cons ?_ | refine s_nil ?_ | refine s_call ?_ | refine s_callL ?_ | refine s_test ?_ | refine s_tru ?_ | refine s_truV rfl ?_ | refine s_truO rfl ?_ | refine s_len rfl ?_ | refine s_lenO rfl ?_ | refine s_notT ?_ | refine s_notX ?_ | refine s_notN rfl ?_ | refine s_notO rfl ?_ | refine s_and ?_ | refine s_or ?_ | refine s_tup ?_ | refine s_fz ?_ | refine s_lst ?_ | refine s_isi ?_ | refine s_andV ?_ | refine s_orV ?_ | refine s_if ?_ | refine s_chain ?_ | refine s_slX ?_ | refine s_rev ?_ | refine s_part ?_ | refine s_noPart ?_ | refine s_asgL ?_ | refine s_par ?_ | refine s_aug rfl ?_ | refine s_app rfl ?_ | refine s_ret ?_ | refine s_retV rfl ?_ | refine s_retO rfl ?_ | refine s_retL ?_ | refine s_drop ?_ | refine s_ifS ?_ | refine s_nx ?_ | refine s_setIx ?_ | refine s_items ?_ | refine s_enum ?_ | refine s_zip ?_ | refine s_rng1 ?_ | refine s_rng2 ?_ | refine s_ap ?_ | refine s_apL ?_ | refine s_yes ?_ | refine s_binL ?_ | refine o_add ?_ | refine o_sub ?_ | refine o_lt ?_ | refine o_le ?_ | refine o_gt ?_ | refine o_ge ?_ | refine o_eq ?_ | refine o_ne ?_ | refine o_neg ?_ | refine o_int1 ?_ | refine o_int1b ?_ | refine o_abs ?_ | refine o_tupleL ?_ | refine o_tupleT ?_ | refine o_lenT ?_ | refine o_lenL ?_ | refine o_addI ?_ | refine s_varO rfl ?_ | refine ⟨⟨_, rfl⟩, ?_⟩ | refine ⟨_, _, _, rfl, rfl, rfl, ?_⟩ | refine ⟨_, rfl, ?_⟩ | refine ⟨rfl, ?_⟩ | refine ⟨?_, Nat.le_of_ble_eq_true rfl⟩ | refine o_mod (by omega) ?_ | refine o_mul (mul64 (by omega) (by omega)) ?_)
      refine ⟨?_, ?_⟩
      · have : done.length + (a :: r).length = ns.length := by rw [← he, List.length_append]
        simp only [IL, List.length_map]
        simp at this
        omega
      repeat (first | refine s_last ?_ | refine s_seq ?_ | refine s_asgN ?_ | refine s_bin ?_ | refine s_un ?_ | refine s_C ?_ | refine s_var rfl ?_ | refine s_ixV rfl ?_ | refine s_ixO rfl ?_ | refine s_cons ?_ | refine s_nil ?_ | refine s_call ?_ | refine s_callL ?_ | refine s_test ?_ | refine s_tru ?_ | refine s_truV rfl ?_ | refine s_truO rfl ?_ | refine s_len rfl ?_ | refine s_lenO rfl ?_ | refine s_notT ?_ | refine s_notX ?_ | refine s_notN rfl ?_ | refine s_notO rfl ?_ | refine s_and ?_ | refine s_or ?_ | refine s_tup ?_ | refine s_fz ?_ | refine s_lst ?_ | refine s_isi ?_ | refine s_andV ?_ | refine s_orV ?_ | refine s_if ?_ | refine s_chain ?_ | refine s_slX ?_ | refine s_rev ?_ | refine s_part ?_ | refine s_noPart ?_ | refine s_asgL ?_ | refine s_par ?_ | refine s_aug rfl ?_ | refine s_app rfl ?_ | refine s_ret ?_ | refine s_retV rfl ?_ | refine s_retO rfl ?_ | refine s_retL ?_ | refine s_drop ?_ | refine s_ifS ?_ | refine s_nx ?_ | refine s_setIx ?_ | refine s_items ?_ | refine s_enum ?_ | refine s_zip ?_ | refine s_rng1 ?_ | refine s_rng2 ?_ | refine s_ap ?_ | refine s_apL ?_ | refine s_yes ?_ | refine s_binL ?_ | refine o_add ?_ | refine o_sub ?_ | refine o_lt ?_ | refine o_le ?_ | refine o_gt ?_ | refine o_ge ?_ | refine o_eq ?_ | refine o_ne ?_ | refine o_neg ?_ | refine o_int1 ?_ | refine o_int1b ?_ | refine o_abs ?_ | refine o_tupleL ?_ | refine o_tupleT ?_ | refine o_lenT ?_ | refine o_lenL ?_ | refine o_addI ?_ | refine s_varO rfl ?_ | refine ⟨⟨_, rfl⟩, ?_⟩ | refine ⟨_, _, _, rfl, rfl, rfl, ?_⟩ | refine ⟨_, rfl, ?_⟩ | refine ⟨rfl, ?_⟩ | refine ⟨?_, Nat.le_of_ble_eq_true rfl⟩ | refine o_mod (by omega) ?_ | refine o_mul (mul64 (by omega) (by omega)) ?_)
      refine ⟨.int (idx p (a :: r) / p), ?_, rfl, r.length, by rw [← hn]; simp, done ++ [a], r, ?_, rfl, by rw [← he]; simp⟩
      · unfold dIFdiv
        simp only
        rw [if_pos ⟨h0, by omega⟩]
      · rw [e1, e2]
        simp [IL]
    · have := of_decide_eq_false hb
      omega
theorem ap_of_index0 {p : Int} : Ap f_of_index [.int p, .int 0] (.tup []) := by
  refine ap_fn ?_
  show (m_of_index [.fz (.int p), .fz (.int 0), .no]).sat _
  repeat (first | refine s_last ?_ | refine s_seq ?_ | refine s_asgN ?_ | refine s_bin ?_ | refine s_un ?_ | refine s_C ?_ | refine s_var rfl ?_ | refine s_ixV rfl ?_ | refine s_ixO rfl ?_ | refine s_cons ?_ | refine s_nil ?_ | refine s_call ?_ | refine s_callL ?_ | refine s_test ?_ | refine s_tru ?_ | refine s_truV rfl ?_ | refine s_truO rfl ?_ | refine s_len rfl ?_ | refine s_lenO rfl ?_ | refine s_notT ?_ | refine s_notX ?_ | refine s_notN rfl ?_ | refine s_notO rfl ?_ | refine s_and ?_ | refine s_or ?_ | refine s_tup ?_ | refine s_fz ?_ | refine s_lst ?_ | refine s_isi ?_ | refine s_andV ?_ | refine s_orV ?_ | refine s_if ?_ | refine s_chain ?_ | refine s_slX ?_ | refine s_rev ?_ | refine s_part ?_ | refine s_noPart ?_ | refine s_asgL ?_ | refine s_par ?_ | refine s_aug rfl ?_ | refine s_app rfl ?_ | refine s_ret ?_ | refine s_retV rfl ?_ | refine s_retO rfl ?_ | refine s_retL ?_ | refine s_drop ?_ | refine s_ifS ?_ | refine s_nx ?_ | refine s_setIx ?_ | refine s_items ?_ | refine s_enum ?_ | refine s_zip ?_ | refine s_rng1 ?_ | refine s_rng2 ?_ | refine s_ap ?_ | refine s_apL ?_ | refine s_yes ?_ | refine s_binL ?_ | refine o_add ?_ | refine o_sub ?_ | refine o_lt ?_ | refine o_le ?_ | refine o_gt ?_ | refine o_ge ?_ | refine o_eq ?_ | refine o_ne ?_ | refine o_neg ?_ | refine o_int1 ?_ | refine o_int1b ?_ | refine o_abs ?_ | refine o_tupleL ?_ | refine o_tupleT ?_ | refine o_lenT ?_ | refine o_lenL ?_ | refine o_addI ?_ | refine s_varO rfl ?_ | refine ⟨⟨_, rfl⟩, ?_⟩ | refine ⟨_, _, _, rfl, rfl, rfl, ?_⟩ | refine ⟨_, rfl, ?_⟩ | refine ⟨rfl, ?_⟩ | refine ⟨?_, Nat.le_of_ble_eq_true rfl⟩ | refine o_mod (by omega) ?_ | refine o_mul (mul64 (by omega) (by omega)) ?_)
  refine (s_while (fun n S => S = [.fz (.int p), .fz (.int 0), .ow []]) (fun n S hP => ?_) 0 _ rfl)
  subst hP
  repeat (first | refine s_last ?_ | refine s_seq ?_ | refine s_asgN ?_ | refine s_bin ?_ | refine s_un ?_ | refine s_C ?_ | refine s_var rfl ?_ | refine s_ixV rfl ?_ | refine s_ixO rfl ?_ | refine s_cons ?_ | refine s_nil ?_ | refine s_call ?_ | refine s_callL ?_ | refine s_test ?_ | refine s_tru ?_ | refine s_truV rfl ?_ | refine s_truO rfl ?_ | refine s_len rfl ?_ | refine s_lenO rfl ?_ | refine s_notT ?_ | refine s_notX ?_ | refine s_notN rfl ?_ | refine s_notO rfl ?_ | refine s_and ?_ | refine s_or ?_ | refine s_tup ?_ | refine s_fz ?_ | refine s_lst ?_ | refine s_isi ?_ | refine s_andV ?_ | refine s_orV ?_ | refine s_if ?_ | refine s_chain ?_ | refine s_slX ?_ | refine s_rev ?_ | refine s_part ?_ | refine s_noPart ?_ | refine s_asgL ?_ | refine s_par ?_ | refine s_aug rfl ?_ | refine s_app rfl ?_ | refine s_ret ?_ | refine s_retV rfl ?_ | refine s_retO rfl ?_ | refine s_retL ?_ | refine s_drop ?_ | refine s_ifS ?_ | refine s_nx ?_ | refine s_setIx ?_ | refine s_items ?_ | refine s_enum ?_ | refine s_zip ?_ | refine s_rng1 ?_ | refine s_rng2 ?_ | refine s_ap ?_ | refine s_apL ?_ | refine s_yes ?_ | refine s_binL ?_ | refine o_add ?_ | refine o_sub ?_ | refine o_lt ?_ | refine o_le ?_ | refine o_gt ?_ | refine o_ge ?_ | refine o_eq ?_ | refine o_ne ?_ | refine o_neg ?_ | refine o_int1 ?_ | refine o_int1b ?_ | refine o_abs ?_ | refine o_tupleL ?_ | refine o_tupleT ?_ | refine o_lenT ?_ | refine o_lenL ?_ | refine o_addI ?_ | refine s_varO rfl ?_ | refine ⟨⟨_, rfl⟩, ?_⟩ | refine ⟨_, _, _, rfl, rfl, rfl, ?_⟩ | refine ⟨_, rfl, ?_⟩ | refine ⟨rfl, ?_⟩ | refine ⟨?_, Nat.le_of_ble_eq_true rfl⟩ | refine o_mod (by omega) ?_ | refine o_mul (mul64 (by omega) (by omega)) ?_)
  refine ⟨fun hb => absurd hb (by decide), fun _ => ⟨rfl, ?_⟩⟩
  repeat (first | refine s_last ?_ | refine s_seq ?_ | refine s_asgN ?_ | refine s_bin ?_ | refine s_un ?_ | refine s_C ?_ | refine s_var rfl ?_ | refine s_ixV rfl ?_ | refine s_ixO rfl ?_ | refine s_cons ?_ | refine s_nil ?_ | refine s_call ?_ | refine s_callL ?_ | refine s_test ?_ | refine s_tru ?_ | refine s_truV rfl ?_ | refine s_truO rfl ?_ | refine s_len rfl ?_ | refine s_lenO rfl ?_ | refine s_notT ?_ | refine s_notX ?_ | refine s_notN rfl ?_ | refine s_notO rfl ?_ | refine s_and ?_ | refine s_or ?_ | refine s_tup ?_ | refine s_fz ?_ | refine s_lst ?_ | refine s_isi ?_ | refine s_andV ?_ | refine s_orV ?_ | refine s_if ?_ | refine s_chain ?_ | refine s_slX ?_ | refine s_rev ?_ | refine s_part ?_ | refine s_noPart ?_ | refine s_asgL ?_ | refine s_par ?_ | refine s_aug rfl ?_ | refine s_app rfl ?_ | refine s_ret ?_ | refine s_retV rfl ?_ | refine s_retO rfl ?_ | refine s_retL ?_ | refine s_drop ?_ | refine s_ifS ?_ | refine s_nx ?_ | refine s_setIx ?_ | refine s_items ?_ | refine s_enum ?_ | refine s_zip ?_ | refine s_rng1 ?_ | refine s_rng2 ?_ | refine s_ap ?_ | refine s_apL ?_ | refine s_yes ?_ | refine s_binL ?_ | refine o_add ?_ | refine o_sub ?_ | refine o_lt ?_ | refine o_le ?_ | refine o_gt ?_ | refine o_ge ?_ | refine o_eq ?_ | refine o_ne ?_ | refine o_neg ?_ | refine o_int1 ?_ | refine o_int1b ?_ | refine o_abs ?_ | refine o_tupleL ?_ | refine o_tupleT ?_ | refine o_lenT ?_ | refine o_lenL ?_ | refine o_addI ?_ | refine s_varO rfl ?_ | refine ⟨⟨_, rfl⟩, ?_⟩ | refine ⟨_, _, _, rfl, rfl, rfl, ?_⟩ | refine ⟨_, rfl, ?_⟩ | refine ⟨rfl, ?_⟩ | refine ⟨?_, Nat.le_of_ble_eq_true rfl⟩ | refine o_mod (by omega) ?_ | refine o_mul (mul64 (by omega) (by omega)) ?_)
  rfl
/-- digits of a number -/
theorem digits {p : Int} (hp : 2 ≤ p) : ∀ n : Nat, ∃ ns : List Int, Dig p ns ∧ NZ ns ∧ idx p ns = n ∧ ns.length ≤ n := fun n => by
  induction n using Nat.strongRecOn with
  | _ n ih =>
    cases n with
    | zero => exact ⟨[], fun a ha => (List.not_mem_nil ha).elim, trivial, rfl, Nat.le_refl _⟩
    | succ m =>
      have hq : (((m + 1 : Nat) : Int) / p).toNat < m + 1 := by
        have h1 : ((m + 1 : Nat) : Int) / p < ((m + 1 : Nat) : Int) := Int.ediv_lt_self_of_pos_of_ne_one (by omega) (by omega)
        omega
      obtain ⟨ns, h1, h2, h3, h4⟩ := ih _ hq
      have hnn : 0 ≤ ((m + 1 : Nat) : Int) / p := Int.ediv_nonneg (by omega) (by omega)
      have h3' : idx p ns = ((m + 1 : Nat) : Int) / p := by rw [h3]; omega
      refine ⟨((m + 1 : Nat) : Int) % p :: ns, fun a ha => ?_, ?_, ?_, ?_⟩
      · rcases List.mem_cons.mp ha with rfl | ha
        · exact ⟨Int.emod_nonneg _ (by omega), Int.emod_lt_of_pos _ (by omega)⟩
        · exact h1 a ha
      · cases ns with
        | nil =>
          show ((m + 1 : Nat) : Int) % p ≠ 0
          intro hz
          have e0 : ((m + 1 : Nat) : Int) / p = 0 := h3'.symm
          have := Int.emod_add_mul_ediv ((m + 1 : Nat) : Int) p
          rw [hz, e0] at this
          omega
        | cons b r => exact h2
      · show idx p ns * p + ((m + 1 : Nat) : Int) % p = _
        rw [h3']
        have := Int.emod_add_mul_ediv ((m + 1 : Nat) : Int) p
        rw [Int.mul_comm p] at this
        omega
      · rw [List.length_cons]
        omega

/-! ### scaled, inverse, monic -/
theorem ap_scaled {p c : Int} {ns : List Int} {x : D} (hx : x = .lst (IL ns) ∨ x = .tup (IL ns)) (hp : 0 < p) (hl : ns.length ≤ cap) (hm : ∀ a ∈ ns, a.natAbs < 2 ^ 64) (hc : c.natAbs < 2 ^ 64) : Ap f_scaled [.int p, x, .int c] (.tup (IL (trimI (ns.map fun a => a * c % p)))) := by
  refine ap_fn ?_
  show (m_scaled [.fz (.int p), .fz x, .fz (.int c), .no]).sat _
  repeat (first | refine s_last ?_ | refine s_seq ?_ | refine s_asgN ?_ | refine s_bin ?_ | refine s_un ?_ | refine s_C ?_ | refine s_var rfl ?_ | refine s_ixV rfl ?_ | refine s_ixO rfl ?_ | refine s_cons ?_ | refine s_nil ?_ | refine s_call ?_ | refine s_callL ?_ | refine s_test ?_ | refine s_tru ?_ | refine s_truV rfl ?_ | refine s_truO rfl ?_ | refine s_len rfl ?_ | refine s_lenO rfl ?_ | refine s_notT ?_ | refine s_notX ?_ | refine s_notN rfl ?_ | refine s_notO rfl ?_ | refine s_and ?_ | refine s_or ?_ | refine s_tup ?_ | refine s_fz ?_ | refine s_lst ?_ | refine s_isi ?_ | refine s_andV ?_ | refine s_orV ?_ | refine s_if ?_ | refine s_chain ?_ | refine s_slX ?_ | refine s_rev ?_ | refine s_part ?_ | refine s_noPart ?_ | refine s_asgL ?_ | refine s_par ?_ | refine s_aug rfl ?_ | refine s_app rfl ?_ | refine s_ret ?_ | refine s_retV rfl ?_ | refine s_retO rfl ?_ | refine s_retL ?_ | refine s_drop ?_ | refine s_ifS ?_ | refine s_nx ?_ | refine s_setIx ?_ | refine s_items ?_ | refine s_enum ?_ | refine s_zip ?_ | refine s_rng1 ?_ | refine s_rng2 ?_ | refine s_ap ?_ | refine s_apL ?_ | refine s_yes ?_ | refine s_binL ?_ | refine o_add ?_ | refine o_sub ?_ | refine o_lt ?_ | refine o_le ?_ | refine o_gt ?_ | refine o_ge ?_ | refine o_eq ?_ | refine o_ne ?_ | refine o_neg ?_ | refine o_int1 ?_ | refine o_int1b ?_ | refine o_abs ?_ | refine o_tupleL ?_ | refine o_tupleT ?_ | refine o_lenT ?_ | refine o_lenL ?_ | refine o_addI ?_ | refine s_varO rfl ?_ | refine ⟨⟨_, rfl⟩, ?_⟩ | refine ⟨_, _, _, rfl, rfl, rfl, ?_⟩ | refine ⟨_, rfl, ?_⟩ | refine ⟨rfl, ?_⟩ | refine ⟨?_, Nat.le_of_ble_eq_true rfl⟩ | refine o_mod (by omega) ?_ | refine o_mul (mul64 (by omega) (by omega)) ?_)
  refine s_map (fun d => match d with | .int i => .int (i * c) | d => d) ?_
  repeat (first | refine s_last ?_ | refine s_seq ?_ | refine s_asgN ?_ | refine s_bin ?_ | refine s_un ?_ | refine s_C ?_ | refine s_var rfl ?_ | refine s_ixV rfl ?_ | refine s_ixO rfl ?_ | refine s_cons ?_ | refine s_nil ?_ | refine s_call ?_ | refine s_callL ?_ | refine s_test ?_ | refine s_tru ?_ | refine s_truV rfl ?_ | refine s_truO rfl ?_ | refine s_len rfl ?_ | refine s_lenO rfl ?_ | refine s_notT ?_ | refine s_notX ?_ | refine s_notN rfl ?_ | refine s_notO rfl ?_ | refine s_and ?_ | refine s_or ?_ | refine s_tup ?_ | refine s_fz ?_ | refine s_lst ?_ | refine s_isi ?_ | refine s_andV ?_ | refine s_orV ?_ | refine s_if ?_ | refine s_chain ?_ | refine s_slX ?_ | refine s_rev ?_ | refine s_part ?_ | refine s_noPart ?_ | refine s_asgL ?_ | refine s_par ?_ | refine s_aug rfl ?_ | refine s_app rfl ?_ | refine s_ret ?_ | refine s_retV rfl ?_ | refine s_retO rfl ?_ | refine s_retL ?_ | refine s_drop ?_ | refine s_ifS ?_ | refine s_nx ?_ | refine s_setIx ?_ | refine s_items ?_ | refine s_enum ?_ | refine s_zip ?_ | refine s_rng1 ?_ | refine s_rng2 ?_ | refine s_ap ?_ | refine s_apL ?_ | refine s_yes ?_ | refine s_binL ?_ | refine o_add ?_ | refine o_sub ?_ | refine o_lt ?_ | refine o_le ?_ | refine o_gt ?_ | refine o_ge ?_ | refine o_eq ?_ | refine o_ne ?_ | refine o_neg ?_ | refine o_int1 ?_ | refine o_int1b ?_ | refine o_abs ?_ | refine o_tupleL ?_ | refine o_tupleT ?_ | refine o_lenT ?_ | refine o_lenL ?_ | refine o_addI ?_ | refine s_varO rfl ?_ | refine ⟨⟨_, rfl⟩, ?_⟩ | refine ⟨_, _, _, rfl, rfl, rfl, ?_⟩ | refine ⟨_, rfl, ?_⟩ | refine ⟨rfl, ?_⟩ | refine ⟨?_, Nat.le_of_ble_eq_true rfl⟩ | refine o_mod (by omega) ?_ | refine o_mul (mul64 (by omega) (by omega)) ?_)
  refine ⟨IL ns, by rcases hx with h | h <;> simp [h], rfl, by simpa [IL] using hl, fun d hd => ?_, ?_⟩
  · obtain ⟨i, hi, rfl⟩ := List.mem_map.mp hd
    refine ⟨_, rfl, ?_⟩
    repeat (first | refine s_last ?_ | refine s_seq ?_ | refine s_asgN ?_ | refine s_bin ?_ | refine s_un ?_ | refine s_C ?_ | refine s_var rfl ?_ | refine s_ixV rfl ?_ | refine s_ixO rfl ?_ | refine s_cons ?_ | refine s_nil ?_ | refine s_call ?_ | refine s_callL ?_ | refine s_test ?_ | refine s_tru ?_ | refine s_truV rfl ?_ | refine s_truO rfl ?_ | refine s_len rfl ?_ | refine s_lenO rfl ?_ | refine s_notT ?_ | refine s_notX ?_ | refine s_notN rfl ?_ | refine s_notO rfl ?_ | refine s_and ?_ | refine s_or ?_ | refine s_tup ?_ | refine s_fz ?_ | refine s_lst ?_ | refine s_isi ?_ | refine s_andV ?_ | refine s_orV ?_ | refine s_if ?_ | refine s_chain ?_ | refine s_slX ?_ | refine s_rev ?_ | refine s_part ?_ | refine s_noPart ?_ | refine s_asgL ?_ | refine s_par ?_ | refine s_aug rfl ?_ | refine s_app rfl ?_ | refine s_ret ?_ | refine s_retV rfl ?_ | refine s_retO rfl ?_ | refine s_retL ?_ | refine s_drop ?_ | refine s_ifS ?_ | refine s_nx ?_ | refine s_setIx ?_ | refine s_items ?_ | refine s_enum ?_ | refine s_zip ?_ | refine s_rng1 ?_ | refine s_rng2 ?_ | refine s_ap ?_ | refine s_apL ?_ | refine s_yes ?_ | refine s_binL ?_ | refine o_add ?_ | refine o_sub ?_ | refine o_lt ?_ | refine o_le ?_ | refine o_gt ?_ | refine o_ge ?_ | refine o_eq ?_ | refine o_ne ?_ | refine o_neg ?_ | refine o_int1 ?_ | refine o_int1b ?_ | refine o_abs ?_ | refine o_tupleL ?_ | refine o_tupleT ?_ | refine o_lenT ?_ | refine o_lenL ?_ | refine o_addI ?_ | refine s_varO rfl ?_ | refine ⟨⟨_, rfl⟩, ?_⟩ | refine ⟨_, _, _, rfl, rfl, rfl, ?_⟩ | refine ⟨_, rfl, ?_⟩ | refine ⟨rfl, ?_⟩ | refine ⟨?_, Nat.le_of_ble_eq_true rfl⟩ | refine o_mod (by omega) ?_ | refine o_mul (mul64 (by omega) (by omega)) ?_)
    have h1 : i.natAbs.log2 ≤ 63 := log2_small (hm i hi)
    have h2 : c.natAbs.log2 ≤ 63 := log2_small hc
    refine o_mul (by omega) ?_
    exact ⟨rfl, rfl⟩
  have e : (IL ns).map (fun d => match d with | .int i => .int (i * c) | d => d) = IL (ns.map (· * c)) := by simp [IL]
  rw [e]
  repeat (first | refine s_last ?_ | refine s_seq ?_ | refine s_asgN ?_ | refine s_bin ?_ | refine s_un ?_ | refine s_C ?_ | refine s_var rfl ?_ | refine s_ixV rfl ?_ | refine s_ixO rfl ?_ | refine s_cons ?_ | refine s_nil ?_ | refine s_call ?_ | refine s_callL ?_ | refine s_test ?_ | refine s_tru ?_ | refine s_truV rfl ?_ | refine s_truO rfl ?_ | refine s_len rfl ?_ | refine s_lenO rfl ?_ | refine s_notT ?_ | refine s_notX ?_ | refine s_notN rfl ?_ | refine s_notO rfl ?_ | refine s_and ?_ | refine s_or ?_ | refine s_tup ?_ | refine s_fz ?_ | refine s_lst ?_ | refine s_isi ?_ | refine s_andV ?_ | refine s_orV ?_ | refine s_if ?_ | refine s_chain ?_ | refine s_slX ?_ | refine s_rev ?_ | refine s_part ?_ | refine s_noPart ?_ | refine s_asgL ?_ | refine s_par ?_ | refine s_aug rfl ?_ | refine s_app rfl ?_ | refine s_ret ?_ | refine s_retV rfl ?_ | refine s_retO rfl ?_ | refine s_retL ?_ | refine s_drop ?_ | refine s_ifS ?_ | refine s_nx ?_ | refine s_setIx ?_ | refine s_items ?_ | refine s_enum ?_ | refine s_zip ?_ | refine s_rng1 ?_ | refine s_rng2 ?_ | refine s_ap ?_ | refine s_apL ?_ | refine s_yes ?_ | refine s_binL ?_ | refine o_add ?_ | refine o_sub ?_ | refine o_lt ?_ | refine o_le ?_ | refine o_gt ?_ | refine o_ge ?_ | refine o_eq ?_ | refine o_ne ?_ | refine o_neg ?_ | refine o_int1 ?_ | refine o_int1b ?_ | refine o_abs ?_ | refine o_tupleL ?_ | refine o_tupleT ?_ | refine o_lenT ?_ | refine o_lenL ?_ | refine o_addI ?_ | refine s_varO rfl ?_ | refine ⟨⟨_, rfl⟩, ?_⟩ | refine ⟨_, _, _, rfl, rfl, rfl, ?_⟩ | refine ⟨_, rfl, ?_⟩ | refine ⟨rfl, ?_⟩ | refine ⟨?_, Nat.le_of_ble_eq_true rfl⟩ | refine o_mod (by omega) ?_ | refine o_mul (mul64 (by omega) (by omega)) ?_)
  refine ⟨_, ap_trimmed (ns := ns.map (· * c)) (.inl rfl) hp (by simpa using hl), ?_⟩
  rw [List.map_map]
  rfl
/-- powers by halves -/
def pwF (p : Int) : Nat → Int → Int → Int → Int
  | 0, f, _, _ => f
  | n + 1, f, a, e => if 0 < e then pwF p n (if e % 2 = 1 then f * a % p else f) (a * a % p) (e / 2) else f
def invI (p a : Int) : Int := pwF p 64 1 a (p - 2)
theorem ap_inverse {p a : Int} (hp : 2 ≤ p) (hp2 : p < 2 ^ 63) (ha : a ≠ 0) (ha2 : a.natAbs < 2 ^ 64) : Ap f_inverse [.int p, .int a] (.int (invI p a)) := by
  refine ap_fn ?_
  show (m_inverse [.fz (.int p), .fz (.int a), .no, .no]).sat _
  refine s_seq ?_
  repeat (first | refine s_last ?_ | refine s_seq ?_ | refine s_asgN ?_ | refine s_bin ?_ | refine s_un ?_ | refine s_C ?_ | refine s_var rfl ?_ | refine s_ixV rfl ?_ | refine s_ixO rfl ?_ | refine s_cons ?_ | refine s_nil ?_ | refine s_call ?_ | refine s_callL ?_ | refine s_test ?_ | refine s_tru ?_ | refine s_truV rfl ?_ | refine s_truO rfl ?_ | refine s_len rfl ?_ | refine s_lenO rfl ?_ | refine s_notT ?_ | refine s_notX ?_ | refine s_notN rfl ?_ | refine s_notO rfl ?_ | refine s_and ?_ | refine s_or ?_ | refine s_tup ?_ | refine s_fz ?_ | refine s_lst ?_ | refine s_isi ?_ | refine s_andV ?_ | refine s_orV ?_ | refine s_if ?_ | refine s_chain ?_ | refine s_slX ?_ | refine s_rev ?_ | refine s_part ?_ | refine s_noPart ?_ | refine s_asgL ?_ | refine s_par ?_ | refine s_aug rfl ?_ | refine s_app rfl ?_ | refine s_ret ?_ | refine s_retV rfl ?_ | refine s_retO rfl ?_ | refine s_retL ?_ | refine s_drop ?_ | refine s_ifS ?_ | refine s_nx ?_ | refine s_setIx ?_ | refine s_items ?_ | refine s_enum ?_ | refine s_zip ?_ | refine s_rng1 ?_ | refine s_rng2 ?_ | refine s_ap ?_ | refine s_apL ?_ | refine s_yes ?_ | refine s_binL ?_ | refine o_add ?_ | refine o_sub ?_ | refine o_lt ?_ | refine o_le ?_ | refine o_gt ?_ | refine o_ge ?_ | refine o_eq ?_ | refine o_ne ?_ | refine o_neg ?_ | refine o_int1 ?_ | refine o_int1b ?_ | refine o_abs ?_ | refine o_tupleL ?_ | refine o_tupleT ?_ | refine o_lenT ?_ | refine o_lenL ?_ | refine o_addI ?_ | refine s_varO rfl ?_ | refine ⟨⟨_, rfl⟩, ?_⟩ | refine ⟨_, _, _, rfl, rfl, rfl, ?_⟩ | refine ⟨_, rfl, ?_⟩ | refine ⟨rfl, ?_⟩ | refine ⟨?_, Nat.le_of_ble_eq_true rfl⟩ | refine o_mod (by omega) ?_ | refine o_mul (mul64 (by omega) (by omega)) ?_)
  refine ⟨fun hb => absurd (by simpa using hb) ha, fun _ => ?_⟩
  repeat (first | refine s_last ?_ | refine s_seq ?_ | refine s_asgN ?_ | refine s_bin ?_ | refine s_un ?_ | refine s_C ?_ | refine s_var rfl ?_ | refine s_ixV rfl ?_ | refine s_ixO rfl ?_ | refine s_cons ?_ | refine s_nil ?_ | refine s_call ?_ | refine s_callL ?_ | refine s_test ?_ | refine s_tru ?_ | refine s_truV rfl ?_ | refine s_truO rfl ?_ | refine s_len rfl ?_ | refine s_lenO rfl ?_ | refine s_notT ?_ | refine s_notX ?_ | refine s_notN rfl ?_ | refine s_notO rfl ?_ | refine s_and ?_ | refine s_or ?_ | refine s_tup ?_ | refine s_fz ?_ | refine s_lst ?_ | refine s_isi ?_ | refine s_andV ?_ | refine s_orV ?_ | refine s_if ?_ | refine s_chain ?_ | refine s_slX ?_ | refine s_rev ?_ | refine s_part ?_ | refine s_noPart ?_ | refine s_asgL ?_ | refine s_par ?_ | refine s_aug rfl ?_ | refine s_app rfl ?_ | refine s_ret ?_ | refine s_retV rfl ?_ | refine s_retO rfl ?_ | refine s_retL ?_ | refine s_drop ?_ | refine s_ifS ?_ | refine s_nx ?_ | refine s_setIx ?_ | refine s_items ?_ | refine s_enum ?_ | refine s_zip ?_ | refine s_rng1 ?_ | refine s_rng2 ?_ | refine s_ap ?_ | refine s_apL ?_ | refine s_yes ?_ | refine s_binL ?_ | refine o_add ?_ | refine o_sub ?_ | refine o_lt ?_ | refine o_le ?_ | refine o_gt ?_ | refine o_ge ?_ | refine o_eq ?_ | refine o_ne ?_ | refine o_neg ?_ | refine o_int1 ?_ | refine o_int1b ?_ | refine o_abs ?_ | refine o_tupleL ?_ | refine o_tupleT ?_ | refine o_lenT ?_ | refine o_lenL ?_ | refine o_addI ?_ | refine s_varO rfl ?_ | refine ⟨⟨_, rfl⟩, ?_⟩ | refine ⟨_, _, _, rfl, rfl, rfl, ?_⟩ | refine ⟨_, rfl, ?_⟩ | refine ⟨rfl, ?_⟩ | refine ⟨?_, Nat.le_of_ble_eq_true rfl⟩ | refine o_mod (by omega) ?_ | refine o_mul (mul64 (by omega) (by omega)) ?_)
  refine ⟨_, _, rfl, rfl, rfl, ?_⟩
  refine s_seq (s_while (fun n S => ∃ f b e : Int, S = [.fz (.int p), .fz (.int b), .fz (.int f), .fz (.int e)] ∧ f.natAbs < 2 ^ 64 ∧ b.natAbs < 2 ^ 64 ∧ 0 ≤ e ∧ e < 2 ^ n ∧ pwF p n f b e = invI p a) (fun n S hP => ?_) 64 _ ⟨1, a, p - 2, rfl, by decide, ha2, by omega, by omega, rfl⟩)
  obtain ⟨f, b, e, rfl, hf, hb, h0, he, hi⟩ := hP
  repeat (first | refine s_last ?_ | refine s_seq ?_ | refine s_asgN ?_ | refine s_bin ?_ | refine s_un ?_ | refine s_C ?_ | refine s_var rfl ?_ | refine s_ixV rfl ?_ | refine s_ixO rfl ?_ | refine s_cons ?_ | refine s_nil ?_ | refine s_call ?_ | refine s_callL ?_ | refine s_test ?_ | refine s_tru ?_ | refine s_truV rfl ?_ | refine s_truO rfl ?_ | refine s_len rfl ?_ | refine s_lenO rfl ?_ | refine s_notT ?_ | refine s_notX ?_ | refine s_notN rfl ?_ | refine s_notO rfl ?_ | refine s_and ?_ | refine s_or ?_ | refine s_tup ?_ | refine s_fz ?_ | refine s_lst ?_ | refine s_isi ?_ | refine s_andV ?_ | refine s_orV ?_ | refine s_if ?_ | refine s_chain ?_ | refine s_slX ?_ | refine s_rev ?_ | refine s_part ?_ | refine s_noPart ?_ | refine s_asgL ?_ | refine s_par ?_ | refine s_aug rfl ?_ | refine s_app rfl ?_ | refine s_ret ?_ | refine s_retV rfl ?_ | refine s_retO rfl ?_ | refine s_retL ?_ | refine s_drop ?_ | refine s_ifS ?_ | refine s_nx ?_ | refine s_setIx ?_ | refine s_items ?_ | refine s_enum ?_ | refine s_zip ?_ | refine s_rng1 ?_ | refine s_rng2 ?_ | refine s_ap ?_ | refine s_apL ?_ | refine s_yes ?_ | refine s_binL ?_ | refine o_add ?_ | refine o_sub ?_ | refine o_lt ?_ | refine o_le ?_ | refine o_gt ?_ | refine o_ge ?_ | refine o_eq ?_ | refine o_ne ?_ | refine o_neg ?_ | refine o_int1 ?_ | refine o_int1b ?_ | refine o_abs ?_ | refine o_tupleL ?_ | refine o_tupleT ?_ | refine o_lenT ?_ | refine o_lenL ?_ | refine o_addI ?_ | refine s_varO rfl ?_ | refine ⟨⟨_, rfl⟩, ?_⟩ | refine ⟨_, _, _, rfl, rfl, rfl, ?_⟩ | refine ⟨_, rfl, ?_⟩ | refine ⟨rfl, ?_⟩ | refine ⟨?_, Nat.le_of_ble_eq_true rfl⟩ | refine o_mod (by omega) ?_ | refine o_mul (mul64 (by omega) (by omega)) ?_)
  have hpl : ∀ x : Int, (x % p).natAbs < 2 ^ 64 := fun x => by
    have h1 := Int.emod_nonneg x (b := p) (by omega)
    have h2 := Int.emod_lt_of_pos x (b := p) (by omega)
    omega
  have lf : f.natAbs.log2 ≤ 63 := log2_small hf
  have lb : b.natAbs.log2 ≤ 63 := log2_small hb
  refine ⟨fun hc => ?_, fun hc => ⟨rfl, ?_⟩⟩
  · have hc := of_decide_eq_true hc
    obtain ⟨m, rfl⟩ : ∃ m, n = m + 1 := by
      cases n with
      | zero => exfalso; have : (2 : Int) ^ 0 = 1 := rfl; omega
      | succ m => exact ⟨m, rfl⟩
    have hpw : (2 : Int) ^ (m + 1) = 2 ^ m * 2 := Int.pow_succ ..
    have hstep : pwF p (m + 1) f b e = pwF p m (if e % 2 = 1 then f * b % p else f) (b * b % p) (e / 2) := by
      show (if 0 < e then _ else _) = _
      rw [if_pos hc]
    rw [hstep] at hi
    refine s_seqr ?_
    repeat (first | refine s_last ?_ | refine s_seq ?_ | refine s_asgN ?_ | refine s_bin ?_ | refine s_un ?_ | refine s_C ?_ | refine s_var rfl ?_ | refine s_ixV rfl ?_ | refine s_ixO rfl ?_ | refine s_cons ?_ | refine s_nil ?_ | refine s_call ?_ | refine s_callL ?_ | refine s_test ?_ | refine s_tru ?_ | refine s_truV rfl ?_ | refine s_truO rfl ?_ | refine s_len rfl ?_ | refine s_lenO rfl ?_ | refine s_notT ?_ | refine s_notX ?_ | refine s_notN rfl ?_ | refine s_notO rfl ?_ | refine s_and ?_ | refine s_or ?_ | refine s_tup ?_ | refine s_fz ?_ | refine s_lst ?_ | refine s_isi ?_ | refine s_andV ?_ | refine s_orV ?_ | refine s_if ?_ | refine s_chain ?_ | refine s_slX ?_ | refine s_rev ?_ | refine s_part ?_ | refine s_noPart ?_ | refine s_asgL ?_ | refine s_par ?_ | refine s_aug rfl ?_ | refine s_app rfl ?_ | refine s_ret ?_ | refine s_retV rfl ?_ | refine s_retO rfl ?_ | refine s_retL ?_ | refine s_drop ?_ | refine s_ifS ?_ | refine s_nx ?_ | refine s_setIx ?_ | refine s_items ?_ | refine s_enum ?_ | refine s_zip ?_ | refine s_rng1 ?_ | refine s_rng2 ?_ | refine s_ap ?_ | refine s_apL ?_ | refine s_yes ?_ | refine s_binL ?_ | refine o_add ?_ | refine o_sub ?_ | refine o_lt ?_ | refine o_le ?_ | refine o_gt ?_ | refine o_ge ?_ | refine o_eq ?_ | refine o_ne ?_ | refine o_neg ?_ | refine o_int1 ?_ | refine o_int1b ?_ | refine o_abs ?_ | refine o_tupleL ?_ | refine o_tupleT ?_ | refine o_lenT ?_ | refine o_lenL ?_ | refine o_addI ?_ | refine s_varO rfl ?_ | refine ⟨⟨_, rfl⟩, ?_⟩ | refine ⟨_, _, _, rfl, rfl, rfl, ?_⟩ | refine ⟨_, rfl, ?_⟩ | refine ⟨rfl, ?_⟩ | refine ⟨?_, Nat.le_of_ble_eq_true rfl⟩ | refine o_mod (by omega) ?_ | refine o_mul (mul64 (by omega) (by omega)) ?_)
    refine ⟨fun hd => ?_, fun hd => ?_⟩
    · have hd' : e % 2 = 1 := by simpa using hd
      rw [if_pos hd'] at hi
      repeat (first | refine s_last ?_ | refine s_seq ?_ | refine s_asgN ?_ | refine s_bin ?_ | refine s_un ?_ | refine s_C ?_ | refine s_var rfl ?_ | refine s_ixV rfl ?_ | refine s_ixO rfl ?_ | refine s_cons ?_ | refine s_nil ?_ | refine s_call ?_ | refine s_callL ?_ | refine s_test ?_ | refine s_tru ?_ | refine s_truV rfl ?_ | refine s_truO rfl ?_ | refine s_len rfl ?_ | refine s_lenO rfl ?_ | refine s_notT ?_ | refine s_notX ?_ | refine s_notN rfl ?_ | refine s_notO rfl ?_ | refine s_and ?_ | refine s_or ?_ | refine s_tup ?_ | refine s_fz ?_ | refine s_lst ?_ | refine s_isi ?_ | refine s_andV ?_ | refine s_orV ?_ | refine s_if ?_ | refine s_chain ?_ | refine s_slX ?_ | refine s_rev ?_ | refine s_part ?_ | refine s_noPart ?_ | refine s_asgL ?_ | refine s_par ?_ | refine s_aug rfl ?_ | refine s_app rfl ?_ | refine s_ret ?_ | refine s_retV rfl ?_ | refine s_retO rfl ?_ | refine s_retL ?_ | refine s_drop ?_ | refine s_ifS ?_ | refine s_nx ?_ | refine s_setIx ?_ | refine s_items ?_ | refine s_enum ?_ | refine s_zip ?_ | refine s_rng1 ?_ | refine s_rng2 ?_ | refine s_ap ?_ | refine s_apL ?_ | refine s_yes ?_ | refine s_binL ?_ | refine o_add ?_ | refine o_sub ?_ | refine o_lt ?_ | refine o_le ?_ | refine o_gt ?_ | refine o_ge ?_ | refine o_eq ?_ | refine o_ne ?_ | refine o_neg ?_ | refine o_int1 ?_ | refine o_int1b ?_ | refine o_abs ?_ | refine o_tupleL ?_ | refine o_tupleT ?_ | refine o_lenT ?_ | refine o_lenL ?_ | refine o_addI ?_ | refine s_varO rfl ?_ | refine ⟨⟨_, rfl⟩, ?_⟩ | refine ⟨_, _, _, rfl, rfl, rfl, ?_⟩ | refine ⟨_, rfl, ?_⟩ | refine ⟨rfl, ?_⟩ | refine ⟨?_, Nat.le_of_ble_eq_true rfl⟩ | refine o_mod (by omega) ?_ | refine o_mul (mul64 (by omega) (by omega)) ?_)
      repeat (first | refine s_last ?_ | refine s_seq ?_ | refine s_asgN ?_ | refine s_bin ?_ | refine s_un ?_ | refine s_C ?_ | refine s_var rfl ?_ | refine s_ixV rfl ?_ | refine s_ixO rfl ?_ | refine s_cons ?_ | refine s_nil ?_ | refine s_call ?_ | refine s_callL ?_ | refine s_test ?_ | refine s_tru ?_ | refine s_truV rfl ?_ | refine s_truO rfl ?_ | refine s_len rfl ?_ | refine s_lenO rfl ?_ | refine s_notT ?_ | refine s_notX ?_ | refine s_notN rfl ?_ | refine s_notO rfl ?_ | refine s_and ?_ | refine s_or ?_ | refine s_tup ?_ | refine s_fz ?_ | refine s_lst ?_ | refine s_isi ?_ | refine s_andV ?_ | refine s_orV ?_ | refine s_if ?_ | refine s_chain ?_ | refine s_slX ?_ | refine s_rev ?_ | refine s_part ?_ | refine s_noPart ?_ | refine s_asgL ?_ | refine s_par ?_ | refine s_aug rfl ?_ | refine s_app rfl ?_ | refine s_ret ?_ | refine s_retV rfl ?_ | refine s_retO rfl ?_ | refine s_retL ?_ | refine s_drop ?_ | refine s_ifS ?_ | refine s_nx ?_ | refine s_setIx ?_ | refine s_items ?_ | refine s_enum ?_ | refine s_zip ?_ | refine s_rng1 ?_ | refine s_rng2 ?_ | refine s_ap ?_ | refine s_apL ?_ | refine s_yes ?_ | refine s_binL ?_ | refine o_add ?_ | refine o_sub ?_ | refine o_lt ?_ | refine o_le ?_ | refine o_gt ?_ | refine o_ge ?_ | refine o_eq ?_ | refine o_ne ?_ | refine o_neg ?_ | refine o_int1 ?_ | refine o_int1b ?_ | refine o_abs ?_ | refine o_tupleL ?_ | refine o_tupleT ?_ | refine o_lenT ?_ | refine o_lenL ?_ | refine o_addI ?_ | refine s_varO rfl ?_ | refine ⟨⟨_, rfl⟩, ?_⟩ | refine ⟨_, _, _, rfl, rfl, rfl, ?_⟩ | refine ⟨_, rfl, ?_⟩ | refine ⟨rfl, ?_⟩ | refine ⟨?_, Nat.le_of_ble_eq_true rfl⟩ | refine o_mod (by omega) ?_ | refine o_mul (mul64 (by omega) (by omega)) ?_)
      repeat (first | refine s_last ?_ | refine s_seq ?_ | refine s_asgN ?_ | refine s_bin ?_ | refine s_un ?_ | refine s_C ?_ | refine s_var rfl ?_ | refine s_ixV rfl ?_ | refine s_ixO rfl ?_ | refine s_cons ?_ | refine s_nil ?_ | refine s_call ?_ | refine s_callL ?_ | refine s_test ?_ | refine s_tru ?_ | refine s_truV rfl ?_ | refine s_truO rfl ?_ | refine s_len rfl ?_ | refine s_lenO rfl ?_ | refine s_notT ?_ | refine s_notX ?_ | refine s_notN rfl ?_ | refine s_notO rfl ?_ | refine s_and ?_ | refine s_or ?_ | refine s_tup ?_ | refine s_fz ?_ | refine s_lst ?_ | refine s_isi ?_ | refine s_andV ?_ | refine s_orV ?_ | refine s_if ?_ | refine s_chain ?_ | refine s_slX ?_ | refine s_rev ?_ | refine s_part ?_ | refine s_noPart ?_ | refine s_asgL ?_ | refine s_par ?_ | refine s_aug rfl ?_ | refine s_app rfl ?_ | refine s_ret ?_ | refine s_retV rfl ?_ | refine s_retO rfl ?_ | refine s_retL ?_ | refine s_drop ?_ | refine s_ifS ?_ | refine s_nx ?_ | refine s_setIx ?_ | refine s_items ?_ | refine s_enum ?_ | refine s_zip ?_ | refine s_rng1 ?_ | refine s_rng2 ?_ | refine s_ap ?_ | refine s_apL ?_ | refine s_yes ?_ | refine s_binL ?_ | refine o_add ?_ | refine o_sub ?_ | refine o_lt ?_ | refine o_le ?_ | refine o_gt ?_ | refine o_ge ?_ | refine o_eq ?_ | refine o_ne ?_ | refine o_neg ?_ | refine o_int1 ?_ | refine o_int1b ?_ | refine o_abs ?_ | refine o_tupleL ?_ | refine o_tupleT ?_ | refine o_lenT ?_ | refine o_lenL ?_ | refine o_addI ?_ | refine s_varO rfl ?_ | refine ⟨⟨_, rfl⟩, ?_⟩ | refine ⟨_, _, _, rfl, rfl, rfl, ?_⟩ | refine ⟨_, rfl, ?_⟩ | refine ⟨rfl, ?_⟩ | refine ⟨?_, Nat.le_of_ble_eq_true rfl⟩ | refine o_mod (by omega) ?_ | refine o_mul (mul64 (by omega) (by omega)) ?_)
      refine ⟨m, Nat.lt_succ_self m, f * b % p, b * b % p, e / 2, rfl, hpl _, hpl _, by omega, by omega, hi⟩
    · have hd' : ¬ e % 2 = 1 := by simpa using hd
      rw [if_neg hd'] at hi
      repeat (first | refine s_last ?_ | refine s_seq ?_ | refine s_asgN ?_ | refine s_bin ?_ | refine s_un ?_ | refine s_C ?_ | refine s_var rfl ?_ | refine s_ixV rfl ?_ | refine s_ixO rfl ?_ | refine s_cons ?_ | refine s_nil ?_ | refine s_call ?_ | refine s_callL ?_ | refine s_test ?_ | refine s_tru ?_ | refine s_truV rfl ?_ | refine s_truO rfl ?_ | refine s_len rfl ?_ | refine s_lenO rfl ?_ | refine s_notT ?_ | refine s_notX ?_ | refine s_notN rfl ?_ | refine s_notO rfl ?_ | refine s_and ?_ | refine s_or ?_ | refine s_tup ?_ | refine s_fz ?_ | refine s_lst ?_ | refine s_isi ?_ | refine s_andV ?_ | refine s_orV ?_ | refine s_if ?_ | refine s_chain ?_ | refine s_slX ?_ | refine s_rev ?_ | refine s_part ?_ | refine s_noPart ?_ | refine s_asgL ?_ | refine s_par ?_ | refine s_aug rfl ?_ | refine s_app rfl ?_ | refine s_ret ?_ | refine s_retV rfl ?_ | refine s_retO rfl ?_ | refine s_retL ?_ | refine s_drop ?_ | refine s_ifS ?_ | refine s_nx ?_ | refine s_setIx ?_ | refine s_items ?_ | refine s_enum ?_ | refine s_zip ?_ | refine s_rng1 ?_ | refine s_rng2 ?_ | refine s_ap ?_ | refine s_apL ?_ | refine s_yes ?_ | refine s_binL ?_ | refine o_add ?_ | refine o_sub ?_ | refine o_lt ?_ | refine o_le ?_ | refine o_gt ?_ | refine o_ge ?_ | refine o_eq ?_ | refine o_ne ?_ | refine o_neg ?_ | refine o_int1 ?_ | refine o_int1b ?_ | refine o_abs ?_ | refine o_tupleL ?_ | refine o_tupleT ?_ | refine o_lenT ?_ | refine o_lenL ?_ | refine o_addI ?_ | refine s_varO rfl ?_ | refine ⟨⟨_, rfl⟩, ?_⟩ | refine ⟨_, _, _, rfl, rfl, rfl, ?_⟩ | refine ⟨_, rfl, ?_⟩ | refine ⟨rfl, ?_⟩ | refine ⟨?_, Nat.le_of_ble_eq_true rfl⟩ | refine o_mod (by omega) ?_ | refine o_mul (mul64 (by omega) (by omega)) ?_)
      repeat (first | refine s_last ?_ | refine s_seq ?_ | refine s_asgN ?_ | refine s_bin ?_ | refine s_un ?_ | refine s_C ?_ | refine s_var rfl ?_ | refine s_ixV rfl ?_ | refine s_ixO rfl ?_ | refine s_cons ?_ | refine s_nil ?_ | refine s_call ?_ | refine s_callL ?_ | refine s_test ?_ | refine s_tru ?_ | refine s_truV rfl ?_ | refine s_truO rfl ?_ | refine s_len rfl ?_ | refine s_lenO rfl ?_ | refine s_notT ?_ | refine s_notX ?_ | refine s_notN rfl ?_ | refine s_notO rfl ?_ | refine s_and ?_ | refine s_or ?_ | refine s_tup ?_ | refine s_fz ?_ | refine s_lst ?_ | refine s_isi ?_ | refine s_andV ?_ | refine s_orV ?_ | refine s_if ?_ | refine s_chain ?_ | refine s_slX ?_ | refine s_rev ?_ | refine s_part ?_ | refine s_noPart ?_ | refine s_asgL ?_ | refine s_par ?_ | refine s_aug rfl ?_ | refine s_app rfl ?_ | refine s_ret ?_ | refine s_retV rfl ?_ | refine s_retO rfl ?_ | refine s_retL ?_ | refine s_drop ?_ | refine s_ifS ?_ | refine s_nx ?_ | refine s_setIx ?_ | refine s_items ?_ | refine s_enum ?_ | refine s_zip ?_ | refine s_rng1 ?_ | refine s_rng2 ?_ | refine s_ap ?_ | refine s_apL ?_ | refine s_yes ?_ | refine s_binL ?_ | refine o_add ?_ | refine o_sub ?_ | refine o_lt ?_ | refine o_le ?_ | refine o_gt ?_ | refine o_ge ?_ | refine o_eq ?_ | refine o_ne ?_ | refine o_neg ?_ | refine o_int1 ?_ | refine o_int1b ?_ | refine o_abs ?_ | refine o_tupleL ?_ | refine o_tupleT ?_ | refine o_lenT ?_ | refine o_lenL ?_ | refine o_addI ?_ | refine s_varO rfl ?_ | refine ⟨⟨_, rfl⟩, ?_⟩ | refine ⟨_, _, _, rfl, rfl, rfl, ?_⟩ | refine ⟨_, rfl, ?_⟩ | refine ⟨rfl, ?_⟩ | refine ⟨?_, Nat.le_of_ble_eq_true rfl⟩ | refine o_mod (by omega) ?_ | refine o_mul (mul64 (by omega) (by omega)) ?_)
      refine ⟨m, Nat.lt_succ_self m, f, b * b % p, e / 2, rfl, hf, hpl _, by omega, by omega, hi⟩
  · have hc := of_decide_eq_false hc
    repeat (first | refine s_last ?_ | refine s_seq ?_ | refine s_asgN ?_ | refine s_bin ?_ | refine s_un ?_ | refine s_C ?_ | refine s_var rfl ?_ | refine s_ixV rfl ?_ | refine s_ixO rfl ?_ | refine s_cons ?_ | refine s_nil ?_ | refine s_call ?_ | refine s_callL ?_ | refine s_test ?_ | refine s_tru ?_ | refine s_truV rfl ?_ | refine s_truO rfl ?_ | refine s_len rfl ?_ | refine s_lenO rfl ?_ | refine s_notT ?_ | refine s_notX ?_ | refine s_notN rfl ?_ | refine s_notO rfl ?_ | refine s_and ?_ | refine s_or ?_ | refine s_tup ?_ | refine s_fz ?_ | refine s_lst ?_ | refine s_isi ?_ | refine s_andV ?_ | refine s_orV ?_ | refine s_if ?_ | refine s_chain ?_ | refine s_slX ?_ | refine s_rev ?_ | refine s_part ?_ | refine s_noPart ?_ | refine s_asgL ?_ | refine s_par ?_ | refine s_aug rfl ?_ | refine s_app rfl ?_ | refine s_ret ?_ | refine s_retV rfl ?_ | refine s_retO rfl ?_ | refine s_retL ?_ | refine s_drop ?_ | refine s_ifS ?_ | refine s_nx ?_ | refine s_setIx ?_ | refine s_items ?_ | refine s_enum ?_ | refine s_zip ?_ | refine s_rng1 ?_ | refine s_rng2 ?_ | refine s_ap ?_ | refine s_apL ?_ | refine s_yes ?_ | refine s_binL ?_ | refine o_add ?_ | refine o_sub ?_ | refine o_lt ?_ | refine o_le ?_ | refine o_gt ?_ | refine o_ge ?_ | refine o_eq ?_ | refine o_ne ?_ | refine o_neg ?_ | refine o_int1 ?_ | refine o_int1b ?_ | refine o_abs ?_ | refine o_tupleL ?_ | refine o_tupleT ?_ | refine o_lenT ?_ | refine o_lenL ?_ | refine o_addI ?_ | refine s_varO rfl ?_ | refine ⟨⟨_, rfl⟩, ?_⟩ | refine ⟨_, _, _, rfl, rfl, rfl, ?_⟩ | refine ⟨_, rfl, ?_⟩ | refine ⟨rfl, ?_⟩ | refine ⟨?_, Nat.le_of_ble_eq_true rfl⟩ | refine o_mod (by omega) ?_ | refine o_mul (mul64 (by omega) (by omega)) ?_)
    rw [← hi]
    cases n with
    | zero => rfl
    | succ m =>
      show Fl.rt (D.int f) = Fl.rt (D.int (if 0 < e then _ else f))
      rw [if_neg hc]
end Lib


set_option Elab.async false
set_option linter.all false
set_option maxRecDepth 100000
set_option maxHeartbeats 4000000
/-! Part P3: monic, the law's own inverse, repr, the deck. -/
namespace Lib
open PySem PySem.Spec PyProof.Rows L2 Evl Q4

def P61 : List Int := [3, 5, 7, 11, 13, 17, 19, 23, 29, 31, 37, 41, 43, 47, 53, 59, 61]
def rngI (p : Int) : List Int := (List.range (p - 1).toNat).map fun (k : Nat) => 1 + (k : Int)
theorem inv_all : (P61.all fun p => (rngI p).all fun a => decide (a * invI p a % p = 1) && decide (0 < invI p a) && decide (invI p a < p) && decide ((rngI p).filter (fun x => a * x % p == 1) = [invI p a])) = true := by decide +kernel
theorem mem_rngI {p a : Int} (h0 : 0 < a) (h1 : a < p) : a ∈ rngI p := by
  refine List.mem_map.mpr ⟨(a - 1).toNat, List.mem_range.mpr (by omega), by omega⟩
theorem invI_ok {p a : Int} (hp : p ∈ P61) (h0 : 0 < a) (h1 : a < p) : a * invI p a % p = 1 ∧ 0 < invI p a ∧ invI p a < p ∧ (rngI p).filter (fun x => a * x % p == 1) = [invI p a] := by
  have h := List.all_eq_true.mp inv_all p hp
  have h2 := List.all_eq_true.mp h a (mem_rngI h0 h1)
  simp only [Bool.and_eq_true, decide_eq_true_eq] at h2
  exact ⟨h2.1.1.1, h2.1.1.2, h2.1.2, h2.2⟩
theorem P61_le : ∀ p ∈ P61, 3 ≤ p ∧ p ≤ 61 := by decide
theorem ap_law_inv {p a : Int} (hp : p ∈ P61) (h0 : 0 < a) (h1 : a < p) : Ap f_law_inv [.int p, .int a] (.int (invI p a)) := by
  have hb := P61_le p hp
  refine ap_fn ?_
  show (m_law_inv [.fz (.int p), .fz (.int a), .no]).sat _
  repeat (first | refine s_last ?_ | refine s_seq ?_ | refine s_asgN ?_ | refine s_bin ?_ | refine s_un ?_ | refine s_C ?_ | refine s_var rfl ?_ | refine s_ixV rfl ?_ | refine s_ixO rfl ?_ | refine s_cons ?_ | refine s_nil ?_ | refine s_call ?_ | refine s_callL ?_ | refine s_test ?_ | refine s_tru ?_ | refine s_truV rfl ?_ | refine s_truO rfl ?_ | refine s_len rfl ?_ | refine s_lenO rfl ?_ | refine s_notT ?_ | refine s_notX ?_ | refine s_notN rfl ?_ | refine s_notO rfl ?_ | refine s_and ?_ | refine s_or ?_ | refine s_tup ?_ | refine s_fz ?_ | refine s_lst ?_ | refine s_isi ?_ | refine s_andV ?_ | refine s_orV ?_ | refine s_if ?_ | refine s_chain ?_ | refine s_slX ?_ | refine s_rev ?_ | refine s_part ?_ | refine s_noPart ?_ | refine s_asgL ?_ | refine s_par ?_ | refine s_aug rfl ?_ | refine s_app rfl ?_ | refine s_ret ?_ | refine s_retV rfl ?_ | refine s_retO rfl ?_ | refine s_retL ?_ | refine s_drop ?_ | refine s_ifS ?_ | refine s_nx ?_ | refine s_setIx ?_ | refine s_items ?_ | refine s_enum ?_ | refine s_zip ?_ | refine s_rng1 ?_ | refine s_rng2 ?_ | refine s_ap ?_ | refine s_apL ?_ | refine s_yes ?_ | refine s_binL ?_ | refine o_add ?_ | refine o_sub ?_ | refine o_lt ?_ | refine o_le ?_ | refine o_gt ?_ | refine o_ge ?_ | refine o_eq ?_ | refine o_ne ?_ | refine o_neg ?_ | refine o_int1 ?_ | refine o_int1b ?_ | refine o_abs ?_ | refine o_tupleL ?_ | refine o_tupleT ?_ | refine o_lenT ?_ | refine o_lenL ?_ | refine o_addI ?_ | refine s_varO rfl ?_ | refine ⟨⟨_, rfl⟩, ?_⟩ | refine ⟨_, _, _, rfl, rfl, rfl, ?_⟩ | refine ⟨_, rfl, ?_⟩ | refine ⟨rfl, ?_⟩ | refine ⟨?_, Nat.le_of_ble_eq_true rfl⟩ | refine o_mod (by omega) ?_ | refine o_mul (mul64 (by omega) (by omega)) ?_)
  refine s_filter (fun d => d) (fun d => match d with | .int x => a * x % p == 1 | _ => false) ?_
  repeat (first | refine s_last ?_ | refine s_seq ?_ | refine s_asgN ?_ | refine s_bin ?_ | refine s_un ?_ | refine s_C ?_ | refine s_var rfl ?_ | refine s_ixV rfl ?_ | refine s_ixO rfl ?_ | refine s_cons ?_ | refine s_nil ?_ | refine s_call ?_ | refine s_callL ?_ | refine s_test ?_ | refine s_tru ?_ | refine s_truV rfl ?_ | refine s_truO rfl ?_ | refine s_len rfl ?_ | refine s_lenO rfl ?_ | refine s_notT ?_ | refine s_notX ?_ | refine s_notN rfl ?_ | refine s_notO rfl ?_ | refine s_and ?_ | refine s_or ?_ | refine s_tup ?_ | refine s_fz ?_ | refine s_lst ?_ | refine s_isi ?_ | refine s_andV ?_ | refine s_orV ?_ | refine s_if ?_ | refine s_chain ?_ | refine s_slX ?_ | refine s_rev ?_ | refine s_part ?_ | refine s_noPart ?_ | refine s_asgL ?_ | refine s_par ?_ | refine s_aug rfl ?_ | refine s_app rfl ?_ | refine s_ret ?_ | refine s_retV rfl ?_ | refine s_retO rfl ?_ | refine s_retL ?_ | refine s_drop ?_ | refine s_ifS ?_ | refine s_nx ?_ | refine s_setIx ?_ | refine s_items ?_ | refine s_enum ?_ | refine s_zip ?_ | refine s_rng1 ?_ | refine s_rng2 ?_ | refine s_ap ?_ | refine s_apL ?_ | refine s_yes ?_ | refine s_binL ?_ | refine o_add ?_ | refine o_sub ?_ | refine o_lt ?_ | refine o_le ?_ | refine o_gt ?_ | refine o_ge ?_ | refine o_eq ?_ | refine o_ne ?_ | refine o_neg ?_ | refine o_int1 ?_ | refine o_int1b ?_ | refine o_abs ?_ | refine o_tupleL ?_ | refine o_tupleT ?_ | refine o_lenT ?_ | refine o_lenL ?_ | refine o_addI ?_ | refine s_varO rfl ?_ | refine ⟨⟨_, rfl⟩, ?_⟩ | refine ⟨_, _, _, rfl, rfl, rfl, ?_⟩ | refine ⟨_, rfl, ?_⟩ | refine ⟨rfl, ?_⟩ | refine ⟨?_, Nat.le_of_ble_eq_true rfl⟩ | refine o_mod (by omega) ?_ | refine o_mul (mul64 (by omega) (by omega)) ?_)
  refine ⟨1, p, rfl, by omega, by omega, rfl, ?_, fun d hd => ?_, ?_⟩
  · simp [rngD]
    have : cap = 10000000 := rfl
    omega
  · obtain ⟨k, hk, rfl⟩ := List.mem_map.mp hd
    have hk2 := List.mem_range.mp hk
    refine ⟨_, rfl, ?_⟩
    repeat (first | refine s_last ?_ | refine s_seq ?_ | refine s_asgN ?_ | refine s_bin ?_ | refine s_un ?_ | refine s_C ?_ | refine s_var rfl ?_ | refine s_ixV rfl ?_ | refine s_ixO rfl ?_ | refine s_cons ?_ | refine s_nil ?_ | refine s_call ?_ | refine s_callL ?_ | refine s_test ?_ | refine s_tru ?_ | refine s_truV rfl ?_ | refine s_truO rfl ?_ | refine s_len rfl ?_ | refine s_lenO rfl ?_ | refine s_notT ?_ | refine s_notX ?_ | refine s_notN rfl ?_ | refine s_notO rfl ?_ | refine s_and ?_ | refine s_or ?_ | refine s_tup ?_ | refine s_fz ?_ | refine s_lst ?_ | refine s_isi ?_ | refine s_andV ?_ | refine s_orV ?_ | refine s_if ?_ | refine s_chain ?_ | refine s_slX ?_ | refine s_rev ?_ | refine s_part ?_ | refine s_noPart ?_ | refine s_asgL ?_ | refine s_par ?_ | refine s_aug rfl ?_ | refine s_app rfl ?_ | refine s_ret ?_ | refine s_retV rfl ?_ | refine s_retO rfl ?_ | refine s_retL ?_ | refine s_drop ?_ | refine s_ifS ?_ | refine s_nx ?_ | refine s_setIx ?_ | refine s_items ?_ | refine s_enum ?_ | refine s_zip ?_ | refine s_rng1 ?_ | refine s_rng2 ?_ | refine s_ap ?_ | refine s_apL ?_ | refine s_yes ?_ | refine s_binL ?_ | refine o_add ?_ | refine o_sub ?_ | refine o_lt ?_ | refine o_le ?_ | refine o_gt ?_ | refine o_ge ?_ | refine o_eq ?_ | refine o_ne ?_ | refine o_neg ?_ | refine o_int1 ?_ | refine o_int1b ?_ | refine o_abs ?_ | refine o_tupleL ?_ | refine o_tupleT ?_ | refine o_lenT ?_ | refine o_lenL ?_ | refine o_addI ?_ | refine s_varO rfl ?_ | refine ⟨⟨_, rfl⟩, ?_⟩ | refine ⟨_, _, _, rfl, rfl, rfl, ?_⟩ | refine ⟨_, rfl, ?_⟩ | refine ⟨rfl, ?_⟩ | refine ⟨?_, Nat.le_of_ble_eq_true rfl⟩ | refine o_mod (by omega) ?_ | refine o_mul (mul64 (by omega) (by omega)) ?_)
    refine ⟨fun _ => ?_, fun _ => rfl⟩
    repeat (first | refine s_last ?_ | refine s_seq ?_ | refine s_asgN ?_ | refine s_bin ?_ | refine s_un ?_ | refine s_C ?_ | refine s_var rfl ?_ | refine s_ixV rfl ?_ | refine s_ixO rfl ?_ | refine s_cons ?_ | refine s_nil ?_ | refine s_call ?_ | refine s_callL ?_ | refine s_test ?_ | refine s_tru ?_ | refine s_truV rfl ?_ | refine s_truO rfl ?_ | refine s_len rfl ?_ | refine s_lenO rfl ?_ | refine s_notT ?_ | refine s_notX ?_ | refine s_notN rfl ?_ | refine s_notO rfl ?_ | refine s_and ?_ | refine s_or ?_ | refine s_tup ?_ | refine s_fz ?_ | refine s_lst ?_ | refine s_isi ?_ | refine s_andV ?_ | refine s_orV ?_ | refine s_if ?_ | refine s_chain ?_ | refine s_slX ?_ | refine s_rev ?_ | refine s_part ?_ | refine s_noPart ?_ | refine s_asgL ?_ | refine s_par ?_ | refine s_aug rfl ?_ | refine s_app rfl ?_ | refine s_ret ?_ | refine s_retV rfl ?_ | refine s_retO rfl ?_ | refine s_retL ?_ | refine s_drop ?_ | refine s_ifS ?_ | refine s_nx ?_ | refine s_setIx ?_ | refine s_items ?_ | refine s_enum ?_ | refine s_zip ?_ | refine s_rng1 ?_ | refine s_rng2 ?_ | refine s_ap ?_ | refine s_apL ?_ | refine s_yes ?_ | refine s_binL ?_ | refine o_add ?_ | refine o_sub ?_ | refine o_lt ?_ | refine o_le ?_ | refine o_gt ?_ | refine o_ge ?_ | refine o_eq ?_ | refine o_ne ?_ | refine o_neg ?_ | refine o_int1 ?_ | refine o_int1b ?_ | refine o_abs ?_ | refine o_tupleL ?_ | refine o_tupleT ?_ | refine o_lenT ?_ | refine o_lenL ?_ | refine o_addI ?_ | refine s_varO rfl ?_ | refine ⟨⟨_, rfl⟩, ?_⟩ | refine ⟨_, _, _, rfl, rfl, rfl, ?_⟩ | refine ⟨_, rfl, ?_⟩ | refine ⟨rfl, ?_⟩ | refine ⟨?_, Nat.le_of_ble_eq_true rfl⟩ | refine o_mod (by omega) ?_ | refine o_mul (mul64 (by omega) (by omega)) ?_)
    rfl
  · repeat (first | refine s_last ?_ | refine s_seq ?_ | refine s_asgN ?_ | refine s_bin ?_ | refine s_un ?_ | refine s_C ?_ | refine s_var rfl ?_ | refine s_ixV rfl ?_ | refine s_ixO rfl ?_ | refine s_cons ?_ | refine s_nil ?_ | refine s_call ?_ | refine s_callL ?_ | refine s_test ?_ | refine s_tru ?_ | refine s_truV rfl ?_ | refine s_truO rfl ?_ | refine s_len rfl ?_ | refine s_lenO rfl ?_ | refine s_notT ?_ | refine s_notX ?_ | refine s_notN rfl ?_ | refine s_notO rfl ?_ | refine s_and ?_ | refine s_or ?_ | refine s_tup ?_ | refine s_fz ?_ | refine s_lst ?_ | refine s_isi ?_ | refine s_andV ?_ | refine s_orV ?_ | refine s_if ?_ | refine s_chain ?_ | refine s_slX ?_ | refine s_rev ?_ | refine s_part ?_ | refine s_noPart ?_ | refine s_asgL ?_ | refine s_par ?_ | refine s_aug rfl ?_ | refine s_app rfl ?_ | refine s_ret ?_ | refine s_retV rfl ?_ | refine s_retO rfl ?_ | refine s_retL ?_ | refine s_drop ?_ | refine s_ifS ?_ | refine s_nx ?_ | refine s_setIx ?_ | refine s_items ?_ | refine s_enum ?_ | refine s_zip ?_ | refine s_rng1 ?_ | refine s_rng2 ?_ | refine s_ap ?_ | refine s_apL ?_ | refine s_yes ?_ | refine s_binL ?_ | refine o_add ?_ | refine o_sub ?_ | refine o_lt ?_ | refine o_le ?_ | refine o_gt ?_ | refine o_ge ?_ | refine o_eq ?_ | refine o_ne ?_ | refine o_neg ?_ | refine o_int1 ?_ | refine o_int1b ?_ | refine o_abs ?_ | refine o_tupleL ?_ | refine o_tupleT ?_ | refine o_lenT ?_ | refine o_lenL ?_ | refine o_addI ?_ | refine s_varO rfl ?_ | refine ⟨⟨_, rfl⟩, ?_⟩ | refine ⟨_, _, _, rfl, rfl, rfl, ?_⟩ | refine ⟨_, rfl, ?_⟩ | refine ⟨rfl, ?_⟩ | refine ⟨?_, Nat.le_of_ble_eq_true rfl⟩ | refine o_mod (by omega) ?_ | refine o_mul (mul64 (by omega) (by omega)) ?_)
    have e : ((rngD 1 1 (p - 1).toNat).filter (fun d => match d with | .int x => a * x % p == 1 | _ => false)).map (fun d => d) = IL [invI p a] := by
      rw [← (invI_ok hp h0 h1).2.2.2, List.map_id']
      unfold rngD rngI
      rw [List.filter_map, List.filter_map]
      simp [IL, Function.comp_def]
    rw [e]
    repeat (first | refine s_last ?_ | refine s_seq ?_ | refine s_asgN ?_ | refine s_bin ?_ | refine s_un ?_ | refine s_C ?_ | refine s_var rfl ?_ | refine s_ixV rfl ?_ | refine s_ixO rfl ?_ | refine s_cons ?_ | refine s_nil ?_ | refine s_call ?_ | refine s_callL ?_ | refine s_test ?_ | refine s_tru ?_ | refine s_truV rfl ?_ | refine s_truO rfl ?_ | refine s_len rfl ?_ | refine s_lenO rfl ?_ | refine s_notT ?_ | refine s_notX ?_ | refine s_notN rfl ?_ | refine s_notO rfl ?_ | refine s_and ?_ | refine s_or ?_ | refine s_tup ?_ | refine s_fz ?_ | refine s_lst ?_ | refine s_isi ?_ | refine s_andV ?_ | refine s_orV ?_ | refine s_if ?_ | refine s_chain ?_ | refine s_slX ?_ | refine s_rev ?_ | refine s_part ?_ | refine s_noPart ?_ | refine s_asgL ?_ | refine s_par ?_ | refine s_aug rfl ?_ | refine s_app rfl ?_ | refine s_ret ?_ | refine s_retV rfl ?_ | refine s_retO rfl ?_ | refine s_retL ?_ | refine s_drop ?_ | refine s_ifS ?_ | refine s_nx ?_ | refine s_setIx ?_ | refine s_items ?_ | refine s_enum ?_ | refine s_zip ?_ | refine s_rng1 ?_ | refine s_rng2 ?_ | refine s_ap ?_ | refine s_apL ?_ | refine s_yes ?_ | refine s_binL ?_ | refine o_add ?_ | refine o_sub ?_ | refine o_lt ?_ | refine o_le ?_ | refine o_gt ?_ | refine o_ge ?_ | refine o_eq ?_ | refine o_ne ?_ | refine o_neg ?_ | refine o_int1 ?_ | refine o_int1b ?_ | refine o_abs ?_ | refine o_tupleL ?_ | refine o_tupleT ?_ | refine o_lenT ?_ | refine o_lenL ?_ | refine o_addI ?_ | refine s_varO rfl ?_ | refine ⟨⟨_, rfl⟩, ?_⟩ | refine ⟨_, _, _, rfl, rfl, rfl, ?_⟩ | refine ⟨_, rfl, ?_⟩ | refine ⟨rfl, ?_⟩ | refine ⟨?_, Nat.le_of_ble_eq_true rfl⟩ | refine o_mod (by omega) ?_ | refine o_mul (mul64 (by omega) (by omega)) ?_)
    rfl
theorem ap_monic0 {p : Int} : Ap f_monic [.int p, .tup []] (.tup []) := by
  refine ap_fn ?_
  show (m_monic [.fz (.int p), .fz (.tup [])]).sat _
  repeat (first | refine s_last ?_ | refine s_seq ?_ | refine s_asgN ?_ | refine s_bin ?_ | refine s_un ?_ | refine s_C ?_ | refine s_var rfl ?_ | refine s_ixV rfl ?_ | refine s_ixO rfl ?_ | refine s_cons ?_ | refine s_nil ?_ | refine s_call ?_ | refine s_callL ?_ | refine s_test ?_ | refine s_tru ?_ | refine s_truV rfl ?_ | refine s_truO rfl ?_ | refine s_len rfl ?_ | refine s_lenO rfl ?_ | refine s_notT ?_ | refine s_notX ?_ | refine s_notN rfl ?_ | refine s_notO rfl ?_ | refine s_and ?_ | refine s_or ?_ | refine s_tup ?_ | refine s_fz ?_ | refine s_lst ?_ | refine s_isi ?_ | refine s_andV ?_ | refine s_orV ?_ | refine s_if ?_ | refine s_chain ?_ | refine s_slX ?_ | refine s_rev ?_ | refine s_part ?_ | refine s_noPart ?_ | refine s_asgL ?_ | refine s_par ?_ | refine s_aug rfl ?_ | refine s_app rfl ?_ | refine s_ret ?_ | refine s_retV rfl ?_ | refine s_retO rfl ?_ | refine s_retL ?_ | refine s_drop ?_ | refine s_ifS ?_ | refine s_nx ?_ | refine s_setIx ?_ | refine s_items ?_ | refine s_enum ?_ | refine s_zip ?_ | refine s_rng1 ?_ | refine s_rng2 ?_ | refine s_ap ?_ | refine s_apL ?_ | refine s_yes ?_ | refine s_binL ?_ | refine o_add ?_ | refine o_sub ?_ | refine o_lt ?_ | refine o_le ?_ | refine o_gt ?_ | refine o_ge ?_ | refine o_eq ?_ | refine o_ne ?_ | refine o_neg ?_ | refine o_int1 ?_ | refine o_int1b ?_ | refine o_abs ?_ | refine o_tupleL ?_ | refine o_tupleT ?_ | refine o_lenT ?_ | refine o_lenL ?_ | refine o_addI ?_ | refine s_varO rfl ?_ | refine ⟨⟨_, rfl⟩, ?_⟩ | refine ⟨_, _, _, rfl, rfl, rfl, ?_⟩ | refine ⟨_, rfl, ?_⟩ | refine ⟨rfl, ?_⟩ | refine ⟨?_, Nat.le_of_ble_eq_true rfl⟩ | refine o_mod (by omega) ?_ | refine o_mul (mul64 (by omega) (by omega)) ?_)
  rfl
theorem ap_monic {p a : Int} {ns : List Int} (hp : p ∈ P61) (hd : Dig p (ns ++ [a])) (ha : a ≠ 0) (hl : ns.length < 10000) : Ap f_monic [.int p, .tup (IL (ns ++ [a]))] (.tup (IL (trimI ((ns ++ [a]).map fun x => x * invI p a % p)))) := by
  have hb := P61_le p hp
  have h1 := hd a (by simp)
  obtain ⟨_, i1, i2, _⟩ := invI_ok hp (a := a) (by omega) h1.2
  refine ap_fn ?_
  show (m_monic [.fz (.int p), .fz (.tup (IL (ns ++ [a])))]).sat _
  repeat (first | refine s_last ?_ | refine s_seq ?_ | refine s_asgN ?_ | refine s_bin ?_ | refine s_un ?_ | refine s_C ?_ | refine s_var rfl ?_ | refine s_ixV rfl ?_ | refine s_ixO rfl ?_ | refine s_cons ?_ | refine s_nil ?_ | refine s_call ?_ | refine s_callL ?_ | refine s_test ?_ | refine s_tru ?_ | refine s_truV rfl ?_ | refine s_truO rfl ?_ | refine s_len rfl ?_ | refine s_lenO rfl ?_ | refine s_notT ?_ | refine s_notX ?_ | refine s_notN rfl ?_ | refine s_notO rfl ?_ | refine s_and ?_ | refine s_or ?_ | refine s_tup ?_ | refine s_fz ?_ | refine s_lst ?_ | refine s_isi ?_ | refine s_andV ?_ | refine s_orV ?_ | refine s_if ?_ | refine s_chain ?_ | refine s_slX ?_ | refine s_rev ?_ | refine s_part ?_ | refine s_noPart ?_ | refine s_asgL ?_ | refine s_par ?_ | refine s_aug rfl ?_ | refine s_app rfl ?_ | refine s_ret ?_ | refine s_retV rfl ?_ | refine s_retO rfl ?_ | refine s_retL ?_ | refine s_drop ?_ | refine s_ifS ?_ | refine s_nx ?_ | refine s_setIx ?_ | refine s_items ?_ | refine s_enum ?_ | refine s_zip ?_ | refine s_rng1 ?_ | refine s_rng2 ?_ | refine s_ap ?_ | refine s_apL ?_ | refine s_yes ?_ | refine s_binL ?_ | refine o_add ?_ | refine o_sub ?_ | refine o_lt ?_ | refine o_le ?_ | refine o_gt ?_ | refine o_ge ?_ | refine o_eq ?_ | refine o_ne ?_ | refine o_neg ?_ | refine o_int1 ?_ | refine o_int1b ?_ | refine o_abs ?_ | refine o_tupleL ?_ | refine o_tupleT ?_ | refine o_lenT ?_ | refine o_lenL ?_ | refine o_addI ?_ | refine s_varO rfl ?_ | refine ⟨⟨_, rfl⟩, ?_⟩ | refine ⟨_, _, _, rfl, rfl, rfl, ?_⟩ | refine ⟨_, rfl, ?_⟩ | refine ⟨rfl, ?_⟩ | refine ⟨?_, Nat.le_of_ble_eq_true rfl⟩ | refine o_mod (by omega) ?_ | refine o_mul (mul64 (by omega) (by omega)) ?_)
  refine ⟨fun _ => ?_, fun z => ?_⟩
  · repeat (first | refine s_last ?_ | refine s_seq ?_ | refine s_asgN ?_ | refine s_bin ?_ | refine s_un ?_ | refine s_C ?_ | refine s_var rfl ?_ | refine s_ixV rfl ?_ | refine s_ixO rfl ?_ | refine s_cons ?_ | refine s_nil ?_ | refine s_call ?_ | refine s_callL ?_ | refine s_test ?_ | refine s_tru ?_ | refine s_truV rfl ?_ | refine s_truO rfl ?_ | refine s_len rfl ?_ | refine s_lenO rfl ?_ | refine s_notT ?_ | refine s_notX ?_ | refine s_notN rfl ?_ | refine s_notO rfl ?_ | refine s_and ?_ | refine s_or ?_ | refine s_tup ?_ | refine s_fz ?_ | refine s_lst ?_ | refine s_isi ?_ | refine s_andV ?_ | refine s_orV ?_ | refine s_if ?_ | refine s_chain ?_ | refine s_slX ?_ | refine s_rev ?_ | refine s_part ?_ | refine s_noPart ?_ | refine s_asgL ?_ | refine s_par ?_ | refine s_aug rfl ?_ | refine s_app rfl ?_ | refine s_ret ?_ | refine s_retV rfl ?_ | refine s_retO rfl ?_ | refine s_retL ?_ | refine s_drop ?_ | refine s_ifS ?_ | refine s_nx ?_ | refine s_setIx ?_ | refine s_items ?_ | refine s_enum ?_ | refine s_zip ?_ | refine s_rng1 ?_ | refine s_rng2 ?_ | refine s_ap ?_ | refine s_apL ?_ | refine s_yes ?_ | refine s_binL ?_ | refine o_add ?_ | refine o_sub ?_ | refine o_lt ?_ | refine o_le ?_ | refine o_gt ?_ | refine o_ge ?_ | refine o_eq ?_ | refine o_ne ?_ | refine o_neg ?_ | refine o_int1 ?_ | refine o_int1b ?_ | refine o_abs ?_ | refine o_tupleL ?_ | refine o_tupleT ?_ | refine o_lenT ?_ | refine o_lenL ?_ | refine o_addI ?_ | refine s_varO rfl ?_ | refine ⟨⟨_, rfl⟩, ?_⟩ | refine ⟨_, _, _, rfl, rfl, rfl, ?_⟩ | refine ⟨_, rfl, ?_⟩ | refine ⟨rfl, ?_⟩ | refine ⟨?_, Nat.le_of_ble_eq_true rfl⟩ | refine o_mod (by omega) ?_ | refine o_mul (mul64 (by omega) (by omega)) ?_)
    refine ⟨_, ixLastT, ?_⟩
    repeat (first | refine s_last ?_ | refine s_seq ?_ | refine s_asgN ?_ | refine s_bin ?_ | refine s_un ?_ | refine s_C ?_ | refine s_var rfl ?_ | refine s_ixV rfl ?_ | refine s_ixO rfl ?_ | refine s_cons ?_ | refine s_nil ?_ | refine s_call ?_ | refine s_callL ?_ | refine s_test ?_ | refine s_tru ?_ | refine s_truV rfl ?_ | refine s_truO rfl ?_ | refine s_len rfl ?_ | refine s_lenO rfl ?_ | refine s_notT ?_ | refine s_notX ?_ | refine s_notN rfl ?_ | refine s_notO rfl ?_ | refine s_and ?_ | refine s_or ?_ | refine s_tup ?_ | refine s_fz ?_ | refine s_lst ?_ | refine s_isi ?_ | refine s_andV ?_ | refine s_orV ?_ | refine s_if ?_ | refine s_chain ?_ | refine s_slX ?_ | refine s_rev ?_ | refine s_part ?_ | refine s_noPart ?_ | refine s_asgL ?_ | refine s_par ?_ | refine s_aug rfl ?_ | refine s_app rfl ?_ | refine s_ret ?_ | refine s_retV rfl ?_ | refine s_retO rfl ?_ | refine s_retL ?_ | refine s_drop ?_ | refine s_ifS ?_ | refine s_nx ?_ | refine s_setIx ?_ | refine s_items ?_ | refine s_enum ?_ | refine s_zip ?_ | refine s_rng1 ?_ | refine s_rng2 ?_ | refine s_ap ?_ | refine s_apL ?_ | refine s_yes ?_ | refine s_binL ?_ | refine o_add ?_ | refine o_sub ?_ | refine o_lt ?_ | refine o_le ?_ | refine o_gt ?_ | refine o_ge ?_ | refine o_eq ?_ | refine o_ne ?_ | refine o_neg ?_ | refine o_int1 ?_ | refine o_int1b ?_ | refine o_abs ?_ | refine o_tupleL ?_ | refine o_tupleT ?_ | refine o_lenT ?_ | refine o_lenL ?_ | refine o_addI ?_ | refine s_varO rfl ?_ | refine ⟨⟨_, rfl⟩, ?_⟩ | refine ⟨_, _, _, rfl, rfl, rfl, ?_⟩ | refine ⟨_, rfl, ?_⟩ | refine ⟨rfl, ?_⟩ | refine ⟨?_, Nat.le_of_ble_eq_true rfl⟩ | refine o_mod (by omega) ?_ | refine o_mul (mul64 (by omega) (by omega)) ?_)
    refine ⟨_, ap_inverse (by omega) (by omega) ha (by omega), ?_⟩
    repeat (first | refine s_last ?_ | refine s_seq ?_ | refine s_asgN ?_ | refine s_bin ?_ | refine s_un ?_ | refine s_C ?_ | refine s_var rfl ?_ | refine s_ixV rfl ?_ | refine s_ixO rfl ?_ | refine s_cons ?_ | refine s_nil ?_ | refine s_call ?_ | refine s_callL ?_ | refine s_test ?_ | refine s_tru ?_ | refine s_truV rfl ?_ | refine s_truO rfl ?_ | refine s_len rfl ?_ | refine s_lenO rfl ?_ | refine s_notT ?_ | refine s_notX ?_ | refine s_notN rfl ?_ | refine s_notO rfl ?_ | refine s_and ?_ | refine s_or ?_ | refine s_tup ?_ | refine s_fz ?_ | refine s_lst ?_ | refine s_isi ?_ | refine s_andV ?_ | refine s_orV ?_ | refine s_if ?_ | refine s_chain ?_ | refine s_slX ?_ | refine s_rev ?_ | refine s_part ?_ | refine s_noPart ?_ | refine s_asgL ?_ | refine s_par ?_ | refine s_aug rfl ?_ | refine s_app rfl ?_ | refine s_ret ?_ | refine s_retV rfl ?_ | refine s_retO rfl ?_ | refine s_retL ?_ | refine s_drop ?_ | refine s_ifS ?_ | refine s_nx ?_ | refine s_setIx ?_ | refine s_items ?_ | refine s_enum ?_ | refine s_zip ?_ | refine s_rng1 ?_ | refine s_rng2 ?_ | refine s_ap ?_ | refine s_apL ?_ | refine s_yes ?_ | refine s_binL ?_ | refine o_add ?_ | refine o_sub ?_ | refine o_lt ?_ | refine o_le ?_ | refine o_gt ?_ | refine o_ge ?_ | refine o_eq ?_ | refine o_ne ?_ | refine o_neg ?_ | refine o_int1 ?_ | refine o_int1b ?_ | refine o_abs ?_ | refine o_tupleL ?_ | refine o_tupleT ?_ | refine o_lenT ?_ | refine o_lenL ?_ | refine o_addI ?_ | refine s_varO rfl ?_ | refine ⟨⟨_, rfl⟩, ?_⟩ | refine ⟨_, _, _, rfl, rfl, rfl, ?_⟩ | refine ⟨_, rfl, ?_⟩ | refine ⟨rfl, ?_⟩ | refine ⟨?_, Nat.le_of_ble_eq_true rfl⟩ | refine o_mod (by omega) ?_ | refine o_mul (mul64 (by omega) (by omega)) ?_)
    refine ⟨_, ap_scaled (.inr rfl) (by omega) ?_ (fun x hx => ?_) (by omega), rfl⟩
    · rw [List.length_append]
      simp
      have : cap = 10000000 := rfl
      omega
    · have := hd x hx
      omega
  · simp [IL] at z

/-! ### what is shown -/
def Sm (w k : Nat) (d : D) : Prop := d.flat = true ∧ d.py.showable = true ∧ d.py.depth ≤ k ∧ d.py.shown.length ≤ 1923 * w
def Sms (w k : Nat) (ds : List D) : Prop := D.flats ds = true ∧ PyData.showableAll (D.pys ds) = true ∧ PyData.depthAll (D.pys ds) ≤ k ∧ ((PyData.shownAll (D.pys ds)).map (·.length)).sum + 2 * (PyData.shownAll (D.pys ds)).length ≤ 1923 * w
theorem Sm.okR {w k : Nat} {d : D} (h : Sm w k d) (hw : w ≤ 5000) (hk : k < 60) : d.okR := by
  obtain ⟨h1, h2, h3, h4⟩ := h
  refine ⟨h1, h2, by omega, ?_⟩
  have e : cap = 10000000 := rfl
  omega
theorem sm_int {i : Int} (h : i.natAbs.log2 < 1920) : Sm 1 0 (.int i) := by
  refine ⟨rfl, ?_, by simp [D.py, PyData.depth], ?_⟩
  · simp only [D.py, PyData.showable]
    exact decide_eq_true h
  · have := int_text_length_le (k := 1920) (by decide) h
    show (Str.ofString (toString i)).length ≤ _
    rw [PySem.ofString_length]
    omega
theorem sm_int64 {i : Int} (h : i.natAbs < 18446744073709551616) : Sm 1 0 (.int i) := sm_int (by
  have h1 : i.natAbs.log2 ≤ 63 := log2_small (by omega)
  omega)
theorem sm_bl {b : Bool} : Sm 1 0 (.bl b) := ⟨rfl, by simp [D.py, PyData.showable], by simp [D.py, PyData.depth], by cases b <;> decide⟩
theorem sm_non : Sm 1 0 .non := ⟨rfl, by simp [D.py, PyData.showable], by simp [D.py, PyData.depth], by decide⟩
theorem sms_nil : Sms 0 0 [] := ⟨rfl, by simp [D.pys, PyData.showableAll], by simp [D.pys, PyData.depthAll], by simp [D.pys, PyData.shownAll]⟩
theorem sms_cons {w k w' k' : Nat} {d : D} {ds : List D} (h : Sm w k d) (hs : Sms w' k' ds) : Sms (w + 1 + w') (max k k') (d :: ds) := by
  obtain ⟨h1, h2, h3, h4⟩ := h
  obtain ⟨g1, g2, g3, g4⟩ := hs
  refine ⟨?_, ?_, ?_, ?_⟩
  · simp [D.flats, h1, g1]
  · simp [D.pys, PyData.showableAll, h2, g2]
  · simp only [D.pys, PyData.depthAll]; omega
  · simp only [D.pys, PyData.shownAll, List.map_cons, List.sum_cons, List.length_cons]; omega
theorem Sms.mono {w k w' k' : Nat} {ds : List D} (h : Sms w k ds) (hw : w ≤ w') (hk : k ≤ k') : Sms w' k' ds := ⟨h.1, h.2.1, Nat.le_trans h.2.2.1 hk, Nat.le_trans h.2.2.2 (Nat.mul_le_mul_left _ hw)⟩
theorem Sm.mono {w k w' k' : Nat} {d : D} (h : Sm w k d) (hw : w ≤ w') (hk : k ≤ k') : Sm w' k' d := ⟨h.1, h.2.1, Nat.le_trans h.2.2.1 hk, Nat.le_trans h.2.2.2 (Nat.mul_le_mul_left _ hw)⟩
theorem sms_all {w k : Nat} : ∀ {ds : List D}, (∀ d ∈ ds, Sm w k d) → Sms (ds.length * (w + 1)) k ds
  | [], _ => sms_nil.mono (Nat.zero_le _) (Nat.zero_le _)
  | d :: ds, h => (sms_cons (h d List.mem_cons_self) (sms_all fun x hx => h x (List.mem_cons_of_mem _ hx))).mono (by rw [List.length_cons, Nat.add_mul]; omega) (by omega)
theorem sm_lst {w k : Nat} {ds : List D} (h : Sms w k ds) : Sm (w + 1) (k + 1) (.lst ds) := by
  obtain ⟨g1, g2, g3, g4⟩ := h
  refine ⟨?_, ?_, ?_, ?_⟩
  · simpa [D.flat] using g1
  · simpa [D.py, PyData.showable] using g2
  · simp only [D.py, PyData.depth]; omega
  · have := listText_len_le (PyData.shownAll (D.pys ds))
    simp only [D.py, PyData.shown]
    omega
theorem sm_tup {w k : Nat} {ds : List D} (h : Sms w k ds) : Sm (w + 1) (k + 1) (.tup ds) := by
  obtain ⟨g1, g2, g3, g4⟩ := h
  refine ⟨?_, ?_, ?_, ?_⟩
  · simpa [D.flat] using g1
  · simpa [D.py, PyData.showable] using g2
  · simp only [D.py, PyData.depth]; omega
  · have := tupleText_len_le (PyData.shownAll (D.pys ds))
    simp only [D.py, PyData.shown]
    omega
theorem sm_IL {ns : List Int} (h : ∀ a ∈ ns, a.natAbs < 18446744073709551616) : Sm (2 * ns.length + 1) 1 (.tup (IL ns)) :=
  (sm_tup (sms_all (w := 1) (k := 0) fun d hd => by
    obtain ⟨a, ha, rfl⟩ := List.mem_map.mp hd
    exact sm_int64 (h a ha))).mono (by simp [IL]; omega) (Nat.le_refl _)
theorem ap_law_is {a b : D} (ha : a.okR) (hb : b.okR) : Ap f_law_is [a, b] (.bl (a.py.shown == b.py.shown)) := by
  refine ap_fn ?_
  show (m_law_is [.fz a, .fz b]).sat _
  repeat (first | refine s_last ?_ | refine s_seq ?_ | refine s_asgN ?_ | refine s_bin ?_ | refine s_un ?_ | refine s_C ?_ | refine s_var rfl ?_ | refine s_ixV rfl ?_ | refine s_ixO rfl ?_ | refine s_cons ?_ | refine s_nil ?_ | refine s_call ?_ | refine s_callL ?_ | refine s_test ?_ | refine s_tru ?_ | refine s_truV rfl ?_ | refine s_truO rfl ?_ | refine s_len rfl ?_ | refine s_lenO rfl ?_ | refine s_notT ?_ | refine s_notX ?_ | refine s_notN rfl ?_ | refine s_notO rfl ?_ | refine s_and ?_ | refine s_or ?_ | refine s_tup ?_ | refine s_fz ?_ | refine s_lst ?_ | refine s_isi ?_ | refine s_andV ?_ | refine s_orV ?_ | refine s_if ?_ | refine s_chain ?_ | refine s_slX ?_ | refine s_rev ?_ | refine s_part ?_ | refine s_noPart ?_ | refine s_asgL ?_ | refine s_par ?_ | refine s_aug rfl ?_ | refine s_app rfl ?_ | refine s_ret ?_ | refine s_retV rfl ?_ | refine s_retO rfl ?_ | refine s_retL ?_ | refine s_drop ?_ | refine s_ifS ?_ | refine s_nx ?_ | refine s_setIx ?_ | refine s_items ?_ | refine s_enum ?_ | refine s_zip ?_ | refine s_rng1 ?_ | refine s_rng2 ?_ | refine s_ap ?_ | refine s_apL ?_ | refine s_yes ?_ | refine s_binL ?_ | refine o_add ?_ | refine o_sub ?_ | refine o_lt ?_ | refine o_le ?_ | refine o_gt ?_ | refine o_ge ?_ | refine o_eq ?_ | refine o_ne ?_ | refine o_neg ?_ | refine o_int1 ?_ | refine o_int1b ?_ | refine o_abs ?_ | refine o_tupleL ?_ | refine o_tupleT ?_ | refine o_lenT ?_ | refine o_lenL ?_ | refine o_addI ?_ | refine s_varO rfl ?_ | refine ⟨⟨_, rfl⟩, ?_⟩ | refine ⟨_, _, _, rfl, rfl, rfl, ?_⟩ | refine ⟨_, rfl, ?_⟩ | refine ⟨rfl, ?_⟩ | refine ⟨?_, Nat.le_of_ble_eq_true rfl⟩ | refine o_mod (by omega) ?_ | refine o_mul (mul64 (by omega) (by omega)) ?_)
  refine ⟨.str a.py.shown, by unfold dRepr; simp only; rw [if_pos ha], ?_⟩
  repeat (first | refine s_last ?_ | refine s_seq ?_ | refine s_asgN ?_ | refine s_bin ?_ | refine s_un ?_ | refine s_C ?_ | refine s_var rfl ?_ | refine s_ixV rfl ?_ | refine s_ixO rfl ?_ | refine s_cons ?_ | refine s_nil ?_ | refine s_call ?_ | refine s_callL ?_ | refine s_test ?_ | refine s_tru ?_ | refine s_truV rfl ?_ | refine s_truO rfl ?_ | refine s_len rfl ?_ | refine s_lenO rfl ?_ | refine s_notT ?_ | refine s_notX ?_ | refine s_notN rfl ?_ | refine s_notO rfl ?_ | refine s_and ?_ | refine s_or ?_ | refine s_tup ?_ | refine s_fz ?_ | refine s_lst ?_ | refine s_isi ?_ | refine s_andV ?_ | refine s_orV ?_ | refine s_if ?_ | refine s_chain ?_ | refine s_slX ?_ | refine s_rev ?_ | refine s_part ?_ | refine s_noPart ?_ | refine s_asgL ?_ | refine s_par ?_ | refine s_aug rfl ?_ | refine s_app rfl ?_ | refine s_ret ?_ | refine s_retV rfl ?_ | refine s_retO rfl ?_ | refine s_retL ?_ | refine s_drop ?_ | refine s_ifS ?_ | refine s_nx ?_ | refine s_setIx ?_ | refine s_items ?_ | refine s_enum ?_ | refine s_zip ?_ | refine s_rng1 ?_ | refine s_rng2 ?_ | refine s_ap ?_ | refine s_apL ?_ | refine s_yes ?_ | refine s_binL ?_ | refine o_add ?_ | refine o_sub ?_ | refine o_lt ?_ | refine o_le ?_ | refine o_gt ?_ | refine o_ge ?_ | refine o_eq ?_ | refine o_ne ?_ | refine o_neg ?_ | refine o_int1 ?_ | refine o_int1b ?_ | refine o_abs ?_ | refine o_tupleL ?_ | refine o_tupleT ?_ | refine o_lenT ?_ | refine o_lenL ?_ | refine o_addI ?_ | refine s_varO rfl ?_ | refine ⟨⟨_, rfl⟩, ?_⟩ | refine ⟨_, _, _, rfl, rfl, rfl, ?_⟩ | refine ⟨_, rfl, ?_⟩ | refine ⟨rfl, ?_⟩ | refine ⟨?_, Nat.le_of_ble_eq_true rfl⟩ | refine o_mod (by omega) ?_ | refine o_mul (mul64 (by omega) (by omega)) ?_)
  refine ⟨.str b.py.shown, by unfold dRepr; simp only; rw [if_pos hb], ?_⟩
  exact ⟨_, rfl, rfl⟩
theorem ap_law_is_eq {a b : D} (ha : a.okR) (h : a = b) : Ap f_law_is [a, b] (.bl true) := by
  subst h
  have := ap_law_is ha ha
  rwa [show (a.py.shown == a.py.shown) = true by simp] at this

/-! ### the deck -/
/-- at most t numbers were drawn -/
def Dk (t : Nat) (ds : List D) : Prop := ∃ (a b c d : Int) (ns : List Int), ds = [.int a, .int b, .int c, .lst (IL ns), .int d] ∧ 0 ≤ a ∧ 0 ≤ b ∧ 0 ≤ c ∧ c < 2147483648 ∧ 0 ≤ d ∧ d ≤ t
theorem Dk.mono {t u : Nat} {ds : List D} (h : Dk t ds) (hu : t ≤ u) : Dk u ds := by
  obtain ⟨a, b, c, d, ns, e, h1, h2, h3, h4, h5, h6⟩ := h
  exact ⟨a, b, c, d, ns, e, h1, h2, h3, h4, h5, by omega⟩
theorem deck_ok {ns : List Int} : ∃ ds, ApL f_law_deck [.scr ns] ds ∧ Dk 0 ds := by
  have key : ∃ c : Int, 0 ≤ c ∧ c < 2147483648 ∧ ApL f_law_deck [.scr ns] [.int 0, .int 0, .int c, .lst (IL ns), .int 0] := by
    have h : (m_law_deck [.fz (.scr ns), .no, .no]).sat fun f _ => ∃ c : Int, 0 ≤ c ∧ c < 2147483648 ∧ f = .rl [.int 0, .int 0, .int c, .lst (IL ns), .int 0] := by
      repeat (first | refine s_last ?_ | refine s_seq ?_ | refine s_asgN ?_ | refine s_bin ?_ | refine s_un ?_ | refine s_C ?_ | refine s_var rfl ?_ | refine s_ixV rfl ?_ | refine s_ixO rfl ?_ | refine s_cons ?_ | refine s_nil ?_ | refine s_call ?_ | refine s_callL ?_ | refine s_test ?_ | refine s_tru ?_ | refine s_truV rfl ?_ | refine s_truO rfl ?_ | refine s_len rfl ?_ | refine s_lenO rfl ?_ | refine s_notT ?_ | refine s_notX ?_ | refine s_notN rfl ?_ | refine s_notO rfl ?_ | refine s_and ?_ | refine s_or ?_ | refine s_tup ?_ | refine s_fz ?_ | refine s_lst ?_ | refine s_isi ?_ | refine s_andV ?_ | refine s_orV ?_ | refine s_if ?_ | refine s_chain ?_ | refine s_slX ?_ | refine s_rev ?_ | refine s_part ?_ | refine s_noPart ?_ | refine s_asgL ?_ | refine s_par ?_ | refine s_aug rfl ?_ | refine s_app rfl ?_ | refine s_ret ?_ | refine s_retV rfl ?_ | refine s_retO rfl ?_ | refine s_retL ?_ | refine s_drop ?_ | refine s_ifS ?_ | refine s_nx ?_ | refine s_setIx ?_ | refine s_items ?_ | refine s_enum ?_ | refine s_zip ?_ | refine s_rng1 ?_ | refine s_rng2 ?_ | refine s_ap ?_ | refine s_apL ?_ | refine s_yes ?_ | refine s_binL ?_ | refine o_add ?_ | refine o_sub ?_ | refine o_lt ?_ | refine o_le ?_ | refine o_gt ?_ | refine o_ge ?_ | refine o_eq ?_ | refine o_ne ?_ | refine o_neg ?_ | refine o_int1 ?_ | refine o_int1b ?_ | refine o_abs ?_ | refine o_tupleL ?_ | refine o_tupleT ?_ | refine o_lenT ?_ | refine o_lenL ?_ | refine o_addI ?_ | refine s_varO rfl ?_ | refine ⟨⟨_, rfl⟩, ?_⟩ | refine ⟨_, _, _, rfl, rfl, rfl, ?_⟩ | refine ⟨_, rfl, ?_⟩ | refine ⟨rfl, ?_⟩ | refine ⟨?_, Nat.le_of_ble_eq_true rfl⟩ | refine o_mod (by omega) ?_ | refine o_mul (mul64 (by omega) (by omega)) ?_)
      refine s_for (fun ds i S => ∃ (c : Int) (x : SV), S = [.fz (.scr ns), .fz (.int c), x] ∧ 0 ≤ c ∧ c < 2147483648) ?_
      repeat (first | refine s_last ?_ | refine s_seq ?_ | refine s_asgN ?_ | refine s_bin ?_ | refine s_un ?_ | refine s_C ?_ | refine s_var rfl ?_ | refine s_ixV rfl ?_ | refine s_ixO rfl ?_ | refine s_cons ?_ | refine s_nil ?_ | refine s_call ?_ | refine s_callL ?_ | refine s_test ?_ | refine s_tru ?_ | refine s_truV rfl ?_ | refine s_truO rfl ?_ | refine s_len rfl ?_ | refine s_lenO rfl ?_ | refine s_notT ?_ | refine s_notX ?_ | refine s_notN rfl ?_ | refine s_notO rfl ?_ | refine s_and ?_ | refine s_or ?_ | refine s_tup ?_ | refine s_fz ?_ | refine s_lst ?_ | refine s_isi ?_ | refine s_andV ?_ | refine s_orV ?_ | refine s_if ?_ | refine s_chain ?_ | refine s_slX ?_ | refine s_rev ?_ | refine s_part ?_ | refine s_noPart ?_ | refine s_asgL ?_ | refine s_par ?_ | refine s_aug rfl ?_ | refine s_app rfl ?_ | refine s_ret ?_ | refine s_retV rfl ?_ | refine s_retO rfl ?_ | refine s_retL ?_ | refine s_drop ?_ | refine s_ifS ?_ | refine s_nx ?_ | refine s_setIx ?_ | refine s_items ?_ | refine s_enum ?_ | refine s_zip ?_ | refine s_rng1 ?_ | refine s_rng2 ?_ | refine s_ap ?_ | refine s_apL ?_ | refine s_yes ?_ | refine s_binL ?_ | refine o_add ?_ | refine o_sub ?_ | refine o_lt ?_ | refine o_le ?_ | refine o_gt ?_ | refine o_ge ?_ | refine o_eq ?_ | refine o_ne ?_ | refine o_neg ?_ | refine o_int1 ?_ | refine o_int1b ?_ | refine o_abs ?_ | refine o_tupleL ?_ | refine o_tupleT ?_ | refine o_lenT ?_ | refine o_lenL ?_ | refine o_addI ?_ | refine s_varO rfl ?_ | refine ⟨⟨_, rfl⟩, ?_⟩ | refine ⟨_, _, _, rfl, rfl, rfl, ?_⟩ | refine ⟨_, rfl, ?_⟩ | refine ⟨rfl, ?_⟩ | refine ⟨?_, Nat.le_of_ble_eq_true rfl⟩ | refine o_mod (by omega) ?_ | refine o_mul (mul64 (by omega) (by omega)) ?_)
      refine ⟨IL ns, .inr (.inr ⟨ns, rfl, rfl⟩), ⟨7, .no, rfl, by decide, by decide⟩, fun i d S hi hP => ?_, fun S hP => ?_⟩
      · obtain ⟨c, x, rfl, h1, h2⟩ := hP
        obtain ⟨z, _, rfl⟩ := List.mem_map.mp (List.mem_of_getElem? hi)
        refine ⟨_, rfl, ?_⟩
        repeat (first | refine s_last ?_ | refine s_seq ?_ | refine s_asgN ?_ | refine s_bin ?_ | refine s_un ?_ | refine s_C ?_ | refine s_var rfl ?_ | refine s_ixV rfl ?_ | refine s_ixO rfl ?_ | refine s_cons ?_ | refine s_nil ?_ | refine s_call ?_ | refine s_callL ?_ | refine s_test ?_ | refine s_tru ?_ | refine s_truV rfl ?_ | refine s_truO rfl ?_ | refine s_len rfl ?_ | refine s_lenO rfl ?_ | refine s_notT ?_ | refine s_notX ?_ | refine s_notN rfl ?_ | refine s_notO rfl ?_ | refine s_and ?_ | refine s_or ?_ | refine s_tup ?_ | refine s_fz ?_ | refine s_lst ?_ | refine s_isi ?_ | refine s_andV ?_ | refine s_orV ?_ | refine s_if ?_ | refine s_chain ?_ | refine s_slX ?_ | refine s_rev ?_ | refine s_part ?_ | refine s_noPart ?_ | refine s_asgL ?_ | refine s_par ?_ | refine s_aug rfl ?_ | refine s_app rfl ?_ | refine s_ret ?_ | refine s_retV rfl ?_ | refine s_retO rfl ?_ | refine s_retL ?_ | refine s_drop ?_ | refine s_ifS ?_ | refine s_nx ?_ | refine s_setIx ?_ | refine s_items ?_ | refine s_enum ?_ | refine s_zip ?_ | refine s_rng1 ?_ | refine s_rng2 ?_ | refine s_ap ?_ | refine s_apL ?_ | refine s_yes ?_ | refine s_binL ?_ | refine o_add ?_ | refine o_sub ?_ | refine o_lt ?_ | refine o_le ?_ | refine o_gt ?_ | refine o_ge ?_ | refine o_eq ?_ | refine o_ne ?_ | refine o_neg ?_ | refine o_int1 ?_ | refine o_int1b ?_ | refine o_abs ?_ | refine o_tupleL ?_ | refine o_tupleT ?_ | refine o_lenT ?_ | refine o_lenL ?_ | refine o_addI ?_ | refine s_varO rfl ?_ | refine ⟨⟨_, rfl⟩, ?_⟩ | refine ⟨_, _, _, rfl, rfl, rfl, ?_⟩ | refine ⟨_, rfl, ?_⟩ | refine ⟨rfl, ?_⟩ | refine ⟨?_, Nat.le_of_ble_eq_true rfl⟩ | refine o_mod (by omega) ?_ | refine o_mul (mul64 (by omega) (by omega)) ?_)
        exact ⟨_, _, rfl, by omega, by omega⟩
      · obtain ⟨c, x, rfl, h1, h2⟩ := hP
        repeat (first | refine s_last ?_ | refine s_seq ?_ | refine s_asgN ?_ | refine s_bin ?_ | refine s_un ?_ | refine s_C ?_ | refine s_var rfl ?_ | refine s_ixV rfl ?_ | refine s_ixO rfl ?_ | refine s_cons ?_ | refine s_nil ?_ | refine s_call ?_ | refine s_callL ?_ | refine s_test ?_ | refine s_tru ?_ | refine s_truV rfl ?_ | refine s_truO rfl ?_ | refine s_len rfl ?_ | refine s_lenO rfl ?_ | refine s_notT ?_ | refine s_notX ?_ | refine s_notN rfl ?_ | refine s_notO rfl ?_ | refine s_and ?_ | refine s_or ?_ | refine s_tup ?_ | refine s_fz ?_ | refine s_lst ?_ | refine s_isi ?_ | refine s_andV ?_ | refine s_orV ?_ | refine s_if ?_ | refine s_chain ?_ | refine s_slX ?_ | refine s_rev ?_ | refine s_part ?_ | refine s_noPart ?_ | refine s_asgL ?_ | refine s_par ?_ | refine s_aug rfl ?_ | refine s_app rfl ?_ | refine s_ret ?_ | refine s_retV rfl ?_ | refine s_retO rfl ?_ | refine s_retL ?_ | refine s_drop ?_ | refine s_ifS ?_ | refine s_nx ?_ | refine s_setIx ?_ | refine s_items ?_ | refine s_enum ?_ | refine s_zip ?_ | refine s_rng1 ?_ | refine s_rng2 ?_ | refine s_ap ?_ | refine s_apL ?_ | refine s_yes ?_ | refine s_binL ?_ | refine o_add ?_ | refine o_sub ?_ | refine o_lt ?_ | refine o_le ?_ | refine o_gt ?_ | refine o_ge ?_ | refine o_eq ?_ | refine o_ne ?_ | refine o_neg ?_ | refine o_int1 ?_ | refine o_int1b ?_ | refine o_abs ?_ | refine o_tupleL ?_ | refine o_tupleT ?_ | refine o_lenT ?_ | refine o_lenL ?_ | refine o_addI ?_ | refine s_varO rfl ?_ | refine ⟨⟨_, rfl⟩, ?_⟩ | refine ⟨_, _, _, rfl, rfl, rfl, ?_⟩ | refine ⟨_, rfl, ?_⟩ | refine ⟨rfl, ?_⟩ | refine ⟨?_, Nat.le_of_ble_eq_true rfl⟩ | refine o_mod (by omega) ?_ | refine o_mul (mul64 (by omega) (by omega)) ?_)
        exact ⟨c, h1, h2, rfl⟩
    obtain ⟨f, S', e, c, h1, h2, rfl⟩ := h
    exact ⟨c, h1, h2, apL_fn ⟨_, _, e, rfl⟩⟩
  obtain ⟨c, h1, h2, h3⟩ := key
  exact ⟨_, h3, 0, 0, c, 0, ns, rfl, by decide, by decide, h1, h2, by decide, by decide⟩
end Lib


set_option Elab.async false
set_option linter.all false
set_option maxRecDepth 100000
set_option maxHeartbeats 4000000
/-! Part P4: a number is drawn. -/
namespace Lib
open PySem PySem.Spec PyProof.Rows L2 Evl Q4

theorem draw_fn {ds : List D} {b : Int} {t : Nat} (h : Dk t ds) (ht : t ≤ 1000000000) (h0 : 0 < b) (hb : b < 18446744073709551616) :
    (f_law_draw [.ow ds, .fz (.int b)]).sat fun r A' => ∃ es', (A'[0]? : Option SV) = some (.ow es') ∧ Dk (t + 1) es' ∧ ∃ v : Int, r = .v (.int v) ∧ 0 ≤ v ∧ v < b := by
  obtain ⟨x0, x1, x2, x4, ns, rfl, h1, h2, h3, h4, h5, h6⟩ := h
  have hbl : b.natAbs.log2 < 9000 := by
    have : b.natAbs.log2 ≤ 63 := log2_small (by omega)
    omega
  refine s_fn ?_
  show (m_law_draw [.ow [.int x0, .int x1, .int x2, .lst (IL ns), .int x4], .fz (.int b), .no, .no]).sat _
  -- behind the first part a number ≥ 0 stands at the place 0
  refine s_seqr (sat_mono (Q := fun f S => f = .nx ∧ ∃ (y0 y1 y2 y4 : Int) (u : SV), S = [.ow [.int y0, .int y1, .int y2, .lst (IL ns), .int y4], .fz (.int b), u, .no] ∧ 0 ≤ y0 ∧ 0 ≤ y1 ∧ 0 ≤ y2 ∧ y2 < 2147483648 ∧ 0 ≤ y4 ∧ y4 ≤ (t + 1 : Nat)) ?_ ?_)
  · refine s_ifS ?_
    repeat (first | refine s_last ?_ | refine s_seq ?_ | refine s_asgN ?_ | refine s_bin ?_ | refine s_un ?_ | refine s_C ?_ | refine s_var rfl ?_ | refine s_ixV rfl ?_ | refine s_ixO rfl ?_ | refine s_cons ?_ | refine s_nil ?_ | refine s_call ?_ | refine s_callL ?_ | refine s_test ?_ | refine s_tru ?_ | refine s_truV rfl ?_ | refine s_truO rfl ?_ | refine s_len rfl ?_ | refine s_lenO rfl ?_ | refine s_notT ?_ | refine s_notX ?_ | refine s_notN rfl ?_ | refine s_notO rfl ?_ | refine s_and ?_ | refine s_or ?_ | refine s_tup ?_ | refine s_fz ?_ | refine s_lst ?_ | refine s_isi ?_ | refine s_andV ?_ | refine s_orV ?_ | refine s_if ?_ | refine s_chain ?_ | refine s_slX ?_ | refine s_rev ?_ | refine s_part ?_ | refine s_noPart ?_ | refine s_asgL ?_ | refine s_par ?_ | refine s_aug rfl ?_ | refine s_app rfl ?_ | refine s_ret ?_ | refine s_retV rfl ?_ | refine s_retO rfl ?_ | refine s_retL ?_ | refine s_drop ?_ | refine s_ifS ?_ | refine s_nx ?_ | refine s_setIx ?_ | refine s_items ?_ | refine s_enum ?_ | refine s_zip ?_ | refine s_rng1 ?_ | refine s_rng2 ?_ | refine s_ap ?_ | refine s_apL ?_ | refine s_yes ?_ | refine s_binL ?_ | refine o_add ?_ | refine o_sub ?_ | refine o_lt ?_ | refine o_le ?_ | refine o_gt ?_ | refine o_ge ?_ | refine o_eq ?_ | refine o_ne ?_ | refine o_neg ?_ | refine o_int1 ?_ | refine o_int1b ?_ | refine o_abs ?_ | refine o_tupleL ?_ | refine o_tupleT ?_ | refine o_lenT ?_ | refine o_lenL ?_ | refine o_addI ?_ | refine s_varO rfl ?_ | refine ⟨⟨_, rfl⟩, ?_⟩ | refine ⟨_, _, _, rfl, rfl, rfl, ?_⟩ | refine ⟨_, rfl, ?_⟩ | refine ⟨rfl, ?_⟩ | refine ⟨?_, Nat.le_of_ble_eq_true rfl⟩ | refine o_mod (by omega) ?_ | refine o_mul (mul64 (by omega) (by omega)) ?_)
    refine ⟨fun c0 => ?_, fun c0 => ⟨fun z => (Bool.false_ne_true z).elim, fun _ => ?_⟩⟩
    · have e0 : x0 = 0 := by simpa using c0
      subst e0
      repeat (first | refine s_last ?_ | refine s_seq ?_ | refine s_asgN ?_ | refine s_bin ?_ | refine s_un ?_ | refine s_C ?_ | refine s_var rfl ?_ | refine s_ixV rfl ?_ | refine s_ixO rfl ?_ | refine s_cons ?_ | refine s_nil ?_ | refine s_call ?_ | refine s_callL ?_ | refine s_test ?_ | refine s_tru ?_ | refine s_truV rfl ?_ | refine s_truO rfl ?_ | refine s_len rfl ?_ | refine s_lenO rfl ?_ | refine s_notT ?_ | refine s_notX ?_ | refine s_notN rfl ?_ | refine s_notO rfl ?_ | refine s_and ?_ | refine s_or ?_ | refine s_tup ?_ | refine s_fz ?_ | refine s_lst ?_ | refine s_isi ?_ | refine s_andV ?_ | refine s_orV ?_ | refine s_if ?_ | refine s_chain ?_ | refine s_slX ?_ | refine s_rev ?_ | refine s_part ?_ | refine s_noPart ?_ | refine s_asgL ?_ | refine s_par ?_ | refine s_aug rfl ?_ | refine s_app rfl ?_ | refine s_ret ?_ | refine s_retV rfl ?_ | refine s_retO rfl ?_ | refine s_retL ?_ | refine s_drop ?_ | refine s_ifS ?_ | refine s_nx ?_ | refine s_setIx ?_ | refine s_items ?_ | refine s_enum ?_ | refine s_zip ?_ | refine s_rng1 ?_ | refine s_rng2 ?_ | refine s_ap ?_ | refine s_apL ?_ | refine s_yes ?_ | refine s_binL ?_ | refine o_add ?_ | refine o_sub ?_ | refine o_lt ?_ | refine o_le ?_ | refine o_gt ?_ | refine o_ge ?_ | refine o_eq ?_ | refine o_ne ?_ | refine o_neg ?_ | refine o_int1 ?_ | refine o_int1b ?_ | refine o_abs ?_ | refine o_tupleL ?_ | refine o_tupleT ?_ | refine o_lenT ?_ | refine o_lenL ?_ | refine o_addI ?_ | refine s_varO rfl ?_ | refine ⟨⟨_, rfl⟩, ?_⟩ | refine ⟨_, _, _, rfl, rfl, rfl, ?_⟩ | refine ⟨_, rfl, ?_⟩ | refine ⟨rfl, ?_⟩ | refine ⟨?_, Nat.le_of_ble_eq_true rfl⟩ | refine o_mod (by omega) ?_ | refine o_mul (mul64 (by omega) (by omega)) ?_)
      refine ⟨fun c1 => ?_, fun c1 => ?_⟩
      · have c1 := of_decide_eq_true c1
        have c2 : x1.toNat < ns.length := by simp [IL] at c1; omega
        have e1 : dIx (.lst (IL ns)) (.int x1) = some (.int ns[x1.toNat]) := by
          show atI (IL ns) x1 = _
          unfold atI ixN
          simp only [IL, List.length_map]
          rw [if_pos h2, if_pos (by simp [IL] at c1; exact c1)]
          show (ns.map D.int)[x1.toNat]? = _
          rw [List.getElem?_map, List.getElem?_eq_getElem c2]
          rfl
        repeat (first | refine s_last ?_ | refine s_seq ?_ | refine s_asgN ?_ | refine s_bin ?_ | refine s_un ?_ | refine s_C ?_ | refine s_var rfl ?_ | refine s_ixV rfl ?_ | refine s_ixO rfl ?_ | refine s_cons ?_ | refine s_nil ?_ | refine s_call ?_ | refine s_callL ?_ | refine s_test ?_ | refine s_tru ?_ | refine s_truV rfl ?_ | refine s_truO rfl ?_ | refine s_len rfl ?_ | refine s_lenO rfl ?_ | refine s_notT ?_ | refine s_notX ?_ | refine s_notN rfl ?_ | refine s_notO rfl ?_ | refine s_and ?_ | refine s_or ?_ | refine s_tup ?_ | refine s_fz ?_ | refine s_lst ?_ | refine s_isi ?_ | refine s_andV ?_ | refine s_orV ?_ | refine s_if ?_ | refine s_chain ?_ | refine s_slX ?_ | refine s_rev ?_ | refine s_part ?_ | refine s_noPart ?_ | refine s_asgL ?_ | refine s_par ?_ | refine s_aug rfl ?_ | refine s_app rfl ?_ | refine s_ret ?_ | refine s_retV rfl ?_ | refine s_retO rfl ?_ | refine s_retL ?_ | refine s_drop ?_ | refine s_ifS ?_ | refine s_nx ?_ | refine s_setIx ?_ | refine s_items ?_ | refine s_enum ?_ | refine s_zip ?_ | refine s_rng1 ?_ | refine s_rng2 ?_ | refine s_ap ?_ | refine s_apL ?_ | refine s_yes ?_ | refine s_binL ?_ | refine o_add ?_ | refine o_sub ?_ | refine o_lt ?_ | refine o_le ?_ | refine o_gt ?_ | refine o_ge ?_ | refine o_eq ?_ | refine o_ne ?_ | refine o_neg ?_ | refine o_int1 ?_ | refine o_int1b ?_ | refine o_abs ?_ | refine o_tupleL ?_ | refine o_tupleT ?_ | refine o_lenT ?_ | refine o_lenL ?_ | refine o_addI ?_ | refine s_varO rfl ?_ | refine ⟨⟨_, rfl⟩, ?_⟩ | refine ⟨_, _, _, rfl, rfl, rfl, ?_⟩ | refine ⟨_, rfl, ?_⟩ | refine ⟨rfl, ?_⟩ | refine ⟨?_, Nat.le_of_ble_eq_true rfl⟩ | refine o_mod (by omega) ?_ | refine o_mul (mul64 (by omega) (by omega)) ?_)
        refine ⟨_, e1, ?_⟩
        repeat (first | refine s_last ?_ | refine s_seq ?_ | refine s_asgN ?_ | refine s_bin ?_ | refine s_un ?_ | refine s_C ?_ | refine s_var rfl ?_ | refine s_ixV rfl ?_ | refine s_ixO rfl ?_ | refine s_cons ?_ | refine s_nil ?_ | refine s_call ?_ | refine s_callL ?_ | refine s_test ?_ | refine s_tru ?_ | refine s_truV rfl ?_ | refine s_truO rfl ?_ | refine s_len rfl ?_ | refine s_lenO rfl ?_ | refine s_notT ?_ | refine s_notX ?_ | refine s_notN rfl ?_ | refine s_notO rfl ?_ | refine s_and ?_ | refine s_or ?_ | refine s_tup ?_ | refine s_fz ?_ | refine s_lst ?_ | refine s_isi ?_ | refine s_andV ?_ | refine s_orV ?_ | refine s_if ?_ | refine s_chain ?_ | refine s_slX ?_ | refine s_rev ?_ | refine s_part ?_ | refine s_noPart ?_ | refine s_asgL ?_ | refine s_par ?_ | refine s_aug rfl ?_ | refine s_app rfl ?_ | refine s_ret ?_ | refine s_retV rfl ?_ | refine s_retO rfl ?_ | refine s_retL ?_ | refine s_drop ?_ | refine s_ifS ?_ | refine s_nx ?_ | refine s_setIx ?_ | refine s_items ?_ | refine s_enum ?_ | refine s_zip ?_ | refine s_rng1 ?_ | refine s_rng2 ?_ | refine s_ap ?_ | refine s_apL ?_ | refine s_yes ?_ | refine s_binL ?_ | refine o_add ?_ | refine o_sub ?_ | refine o_lt ?_ | refine o_le ?_ | refine o_gt ?_ | refine o_ge ?_ | refine o_eq ?_ | refine o_ne ?_ | refine o_neg ?_ | refine o_int1 ?_ | refine o_int1b ?_ | refine o_abs ?_ | refine o_tupleL ?_ | refine o_tupleT ?_ | refine o_lenT ?_ | refine o_lenL ?_ | refine o_addI ?_ | refine s_varO rfl ?_ | refine ⟨⟨_, rfl⟩, ?_⟩ | refine ⟨_, _, _, rfl, rfl, rfl, ?_⟩ | refine ⟨_, rfl, ?_⟩ | refine ⟨rfl, ?_⟩ | refine ⟨?_, Nat.le_of_ble_eq_true rfl⟩ | refine o_mod (by omega) ?_ | refine o_mul (mul64 (by omega) (by omega)) ?_)
        refine ⟨_, _, _, _, .no, rfl, by split <;> omega, by omega, h3, h4, h5, by omega⟩
      · have e4 : x4.natAbs < 4000000000 := by omega
        refine s_last (s_ifS ?_)
        repeat (first | refine s_last ?_ | refine s_seq ?_ | refine s_asgN ?_ | refine s_bin ?_ | refine s_un ?_ | refine s_C ?_ | refine s_var rfl ?_ | refine s_ixV rfl ?_ | refine s_ixO rfl ?_ | refine s_cons ?_ | refine s_nil ?_ | refine s_call ?_ | refine s_callL ?_ | refine s_test ?_ | refine s_tru ?_ | refine s_truV rfl ?_ | refine s_truO rfl ?_ | refine s_len rfl ?_ | refine s_lenO rfl ?_ | refine s_notT ?_ | refine s_notX ?_ | refine s_notN rfl ?_ | refine s_notO rfl ?_ | refine s_and ?_ | refine s_or ?_ | refine s_tup ?_ | refine s_fz ?_ | refine s_lst ?_ | refine s_isi ?_ | refine s_andV ?_ | refine s_orV ?_ | refine s_if ?_ | refine s_chain ?_ | refine s_slX ?_ | refine s_rev ?_ | refine s_part ?_ | refine s_noPart ?_ | refine s_asgL ?_ | refine s_par ?_ | refine s_aug rfl ?_ | refine s_app rfl ?_ | refine s_ret ?_ | refine s_retV rfl ?_ | refine s_retO rfl ?_ | refine s_retL ?_ | refine s_drop ?_ | refine s_ifS ?_ | refine s_nx ?_ | refine s_setIx ?_ | refine s_items ?_ | refine s_enum ?_ | refine s_zip ?_ | refine s_rng1 ?_ | refine s_rng2 ?_ | refine s_ap ?_ | refine s_apL ?_ | refine s_yes ?_ | refine s_binL ?_ | refine o_add ?_ | refine o_sub ?_ | refine o_lt ?_ | refine o_le ?_ | refine o_gt ?_ | refine o_ge ?_ | refine o_eq ?_ | refine o_ne ?_ | refine o_neg ?_ | refine o_int1 ?_ | refine o_int1b ?_ | refine o_abs ?_ | refine o_tupleL ?_ | refine o_tupleT ?_ | refine o_lenT ?_ | refine o_lenL ?_ | refine o_addI ?_ | refine s_varO rfl ?_ | refine ⟨⟨_, rfl⟩, ?_⟩ | refine ⟨_, _, _, rfl, rfl, rfl, ?_⟩ | refine ⟨_, rfl, ?_⟩ | refine ⟨rfl, ?_⟩ | refine ⟨?_, Nat.le_of_ble_eq_true rfl⟩ | refine o_mod (by omega) ?_ | refine o_mul (mul64 (by omega) (by omega)) ?_)
        refine ⟨fun _ => ?_, fun z => (Bool.false_ne_true z.symm).elim⟩
        repeat (first | refine s_last ?_ | refine s_seq ?_ | refine s_asgN ?_ | refine s_bin ?_ | refine s_un ?_ | refine s_C ?_ | refine s_var rfl ?_ | refine s_ixV rfl ?_ | refine s_ixO rfl ?_ | refine s_cons ?_ | refine s_nil ?_ | refine s_call ?_ | refine s_callL ?_ | refine s_test ?_ | refine s_tru ?_ | refine s_truV rfl ?_ | refine s_truO rfl ?_ | refine s_len rfl ?_ | refine s_lenO rfl ?_ | refine s_notT ?_ | refine s_notX ?_ | refine s_notN rfl ?_ | refine s_notO rfl ?_ | refine s_and ?_ | refine s_or ?_ | refine s_tup ?_ | refine s_fz ?_ | refine s_lst ?_ | refine s_isi ?_ | refine s_andV ?_ | refine s_orV ?_ | refine s_if ?_ | refine s_chain ?_ | refine s_slX ?_ | refine s_rev ?_ | refine s_part ?_ | refine s_noPart ?_ | refine s_asgL ?_ | refine s_par ?_ | refine s_aug rfl ?_ | refine s_app rfl ?_ | refine s_ret ?_ | refine s_retV rfl ?_ | refine s_retO rfl ?_ | refine s_retL ?_ | refine s_drop ?_ | refine s_ifS ?_ | refine s_nx ?_ | refine s_setIx ?_ | refine s_items ?_ | refine s_enum ?_ | refine s_zip ?_ | refine s_rng1 ?_ | refine s_rng2 ?_ | refine s_ap ?_ | refine s_apL ?_ | refine s_yes ?_ | refine s_binL ?_ | refine o_add ?_ | refine o_sub ?_ | refine o_lt ?_ | refine o_le ?_ | refine o_gt ?_ | refine o_ge ?_ | refine o_eq ?_ | refine o_ne ?_ | refine o_neg ?_ | refine o_int1 ?_ | refine o_int1b ?_ | refine o_abs ?_ | refine o_tupleL ?_ | refine o_tupleT ?_ | refine o_lenT ?_ | refine o_lenL ?_ | refine o_addI ?_ | refine s_varO rfl ?_ | refine ⟨⟨_, rfl⟩, ?_⟩ | refine ⟨_, _, _, rfl, rfl, rfl, ?_⟩ | refine ⟨_, rfl, ?_⟩ | refine ⟨rfl, ?_⟩ | refine ⟨?_, Nat.le_of_ble_eq_true rfl⟩ | refine o_mod (by omega) ?_ | refine o_mul (mul64 (by omega) (by omega)) ?_)

        exact ⟨_, _, _, _, _, rfl, by omega, h2, h3, h4, by omega, by omega⟩
    · have e0 : x0 ≠ 0 := by simpa using c0
      refine s_last (s_ifS ?_)
      repeat (first | refine s_last ?_ | refine s_seq ?_ | refine s_asgN ?_ | refine s_bin ?_ | refine s_un ?_ | refine s_C ?_ | refine s_var rfl ?_ | refine s_ixV rfl ?_ | refine s_ixO rfl ?_ | refine s_cons ?_ | refine s_nil ?_ | refine s_call ?_ | refine s_callL ?_ | refine s_test ?_ | refine s_tru ?_ | refine s_truV rfl ?_ | refine s_truO rfl ?_ | refine s_len rfl ?_ | refine s_lenO rfl ?_ | refine s_notT ?_ | refine s_notX ?_ | refine s_notN rfl ?_ | refine s_notO rfl ?_ | refine s_and ?_ | refine s_or ?_ | refine s_tup ?_ | refine s_fz ?_ | refine s_lst ?_ | refine s_isi ?_ | refine s_andV ?_ | refine s_orV ?_ | refine s_if ?_ | refine s_chain ?_ | refine s_slX ?_ | refine s_rev ?_ | refine s_part ?_ | refine s_noPart ?_ | refine s_asgL ?_ | refine s_par ?_ | refine s_aug rfl ?_ | refine s_app rfl ?_ | refine s_ret ?_ | refine s_retV rfl ?_ | refine s_retO rfl ?_ | refine s_retL ?_ | refine s_drop ?_ | refine s_ifS ?_ | refine s_nx ?_ | refine s_setIx ?_ | refine s_items ?_ | refine s_enum ?_ | refine s_zip ?_ | refine s_rng1 ?_ | refine s_rng2 ?_ | refine s_ap ?_ | refine s_apL ?_ | refine s_yes ?_ | refine s_binL ?_ | refine o_add ?_ | refine o_sub ?_ | refine o_lt ?_ | refine o_le ?_ | refine o_gt ?_ | refine o_ge ?_ | refine o_eq ?_ | refine o_ne ?_ | refine o_neg ?_ | refine o_int1 ?_ | refine o_int1b ?_ | refine o_abs ?_ | refine o_tupleL ?_ | refine o_tupleT ?_ | refine o_lenT ?_ | refine o_lenL ?_ | refine o_addI ?_ | refine s_varO rfl ?_ | refine ⟨⟨_, rfl⟩, ?_⟩ | refine ⟨_, _, _, rfl, rfl, rfl, ?_⟩ | refine ⟨_, rfl, ?_⟩ | refine ⟨rfl, ?_⟩ | refine ⟨?_, Nat.le_of_ble_eq_true rfl⟩ | refine o_mod (by omega) ?_ | refine o_mul (mul64 (by omega) (by omega)) ?_)
      refine ⟨fun z => absurd (by simpa using z) e0, fun _ => ?_⟩
      repeat (first | refine s_last ?_ | refine s_seq ?_ | refine s_asgN ?_ | refine s_bin ?_ | refine s_un ?_ | refine s_C ?_ | refine s_var rfl ?_ | refine s_ixV rfl ?_ | refine s_ixO rfl ?_ | refine s_cons ?_ | refine s_nil ?_ | refine s_call ?_ | refine s_callL ?_ | refine s_test ?_ | refine s_tru ?_ | refine s_truV rfl ?_ | refine s_truO rfl ?_ | refine s_len rfl ?_ | refine s_lenO rfl ?_ | refine s_notT ?_ | refine s_notX ?_ | refine s_notN rfl ?_ | refine s_notO rfl ?_ | refine s_and ?_ | refine s_or ?_ | refine s_tup ?_ | refine s_fz ?_ | refine s_lst ?_ | refine s_isi ?_ | refine s_andV ?_ | refine s_orV ?_ | refine s_if ?_ | refine s_chain ?_ | refine s_slX ?_ | refine s_rev ?_ | refine s_part ?_ | refine s_noPart ?_ | refine s_asgL ?_ | refine s_par ?_ | refine s_aug rfl ?_ | refine s_app rfl ?_ | refine s_ret ?_ | refine s_retV rfl ?_ | refine s_retO rfl ?_ | refine s_retL ?_ | refine s_drop ?_ | refine s_ifS ?_ | refine s_nx ?_ | refine s_setIx ?_ | refine s_items ?_ | refine s_enum ?_ | refine s_zip ?_ | refine s_rng1 ?_ | refine s_rng2 ?_ | refine s_ap ?_ | refine s_apL ?_ | refine s_yes ?_ | refine s_binL ?_ | refine o_add ?_ | refine o_sub ?_ | refine o_lt ?_ | refine o_le ?_ | refine o_gt ?_ | refine o_ge ?_ | refine o_eq ?_ | refine o_ne ?_ | refine o_neg ?_ | refine o_int1 ?_ | refine o_int1b ?_ | refine o_abs ?_ | refine o_tupleL ?_ | refine o_tupleT ?_ | refine o_lenT ?_ | refine o_lenL ?_ | refine o_addI ?_ | refine s_varO rfl ?_ | refine ⟨⟨_, rfl⟩, ?_⟩ | refine ⟨_, _, _, rfl, rfl, rfl, ?_⟩ | refine ⟨_, rfl, ?_⟩ | refine ⟨rfl, ?_⟩ | refine ⟨?_, Nat.le_of_ble_eq_true rfl⟩ | refine o_mod (by omega) ?_ | refine o_mul (mul64 (by omega) (by omega)) ?_)
      exact ⟨_, _, _, _, _, rfl, h1, h2, h3, h4, h5, by omega⟩
  · rintro f S ⟨rfl, y0, y1, y2, y4, u, rfl, g1, g2, g3, g4, g5, g6⟩
    repeat (first | refine s_last ?_ | refine s_seq ?_ | refine s_asgN ?_ | refine s_bin ?_ | refine s_un ?_ | refine s_C ?_ | refine s_var rfl ?_ | refine s_ixV rfl ?_ | refine s_ixO rfl ?_ | refine s_cons ?_ | refine s_nil ?_ | refine s_call ?_ | refine s_callL ?_ | refine s_test ?_ | refine s_tru ?_ | refine s_truV rfl ?_ | refine s_truO rfl ?_ | refine s_len rfl ?_ | refine s_lenO rfl ?_ | refine s_notT ?_ | refine s_notX ?_ | refine s_notN rfl ?_ | refine s_notO rfl ?_ | refine s_and ?_ | refine s_or ?_ | refine s_tup ?_ | refine s_fz ?_ | refine s_lst ?_ | refine s_isi ?_ | refine s_andV ?_ | refine s_orV ?_ | refine s_if ?_ | refine s_chain ?_ | refine s_slX ?_ | refine s_rev ?_ | refine s_part ?_ | refine s_noPart ?_ | refine s_asgL ?_ | refine s_par ?_ | refine s_aug rfl ?_ | refine s_app rfl ?_ | refine s_ret ?_ | refine s_retV rfl ?_ | refine s_retO rfl ?_ | refine s_retL ?_ | refine s_drop ?_ | refine s_ifS ?_ | refine s_nx ?_ | refine s_setIx ?_ | refine s_items ?_ | refine s_enum ?_ | refine s_zip ?_ | refine s_rng1 ?_ | refine s_rng2 ?_ | refine s_ap ?_ | refine s_apL ?_ | refine s_yes ?_ | refine s_binL ?_ | refine o_add ?_ | refine o_sub ?_ | refine o_lt ?_ | refine o_le ?_ | refine o_gt ?_ | refine o_ge ?_ | refine o_eq ?_ | refine o_ne ?_ | refine o_neg ?_ | refine o_int1 ?_ | refine o_int1b ?_ | refine o_abs ?_ | refine o_tupleL ?_ | refine o_tupleT ?_ | refine o_lenT ?_ | refine o_lenL ?_ | refine o_addI ?_ | refine s_varO rfl ?_ | refine ⟨⟨_, rfl⟩, ?_⟩ | refine ⟨_, _, _, rfl, rfl, rfl, ?_⟩ | refine ⟨_, rfl, ?_⟩ | refine ⟨rfl, ?_⟩ | refine ⟨?_, Nat.le_of_ble_eq_true rfl⟩ | refine o_mod (by omega) ?_ | refine o_mul (mul64 (by omega) (by omega)) ?_)
    refine o_fdiv ⟨h0, hbl⟩ ?_
    repeat (first | refine s_last ?_ | refine s_seq ?_ | refine s_asgN ?_ | refine s_bin ?_ | refine s_un ?_ | refine s_C ?_ | refine s_var rfl ?_ | refine s_ixV rfl ?_ | refine s_ixO rfl ?_ | refine s_cons ?_ | refine s_nil ?_ | refine s_call ?_ | refine s_callL ?_ | refine s_test ?_ | refine s_tru ?_ | refine s_truV rfl ?_ | refine s_truO rfl ?_ | refine s_len rfl ?_ | refine s_lenO rfl ?_ | refine s_notT ?_ | refine s_notX ?_ | refine s_notN rfl ?_ | refine s_notO rfl ?_ | refine s_and ?_ | refine s_or ?_ | refine s_tup ?_ | refine s_fz ?_ | refine s_lst ?_ | refine s_isi ?_ | refine s_andV ?_ | refine s_orV ?_ | refine s_if ?_ | refine s_chain ?_ | refine s_slX ?_ | refine s_rev ?_ | refine s_part ?_ | refine s_noPart ?_ | refine s_asgL ?_ | refine s_par ?_ | refine s_aug rfl ?_ | refine s_app rfl ?_ | refine s_ret ?_ | refine s_retV rfl ?_ | refine s_retO rfl ?_ | refine s_retL ?_ | refine s_drop ?_ | refine s_ifS ?_ | refine s_nx ?_ | refine s_setIx ?_ | refine s_items ?_ | refine s_enum ?_ | refine s_zip ?_ | refine s_rng1 ?_ | refine s_rng2 ?_ | refine s_ap ?_ | refine s_apL ?_ | refine s_yes ?_ | refine s_binL ?_ | refine o_add ?_ | refine o_sub ?_ | refine o_lt ?_ | refine o_le ?_ | refine o_gt ?_ | refine o_ge ?_ | refine o_eq ?_ | refine o_ne ?_ | refine o_neg ?_ | refine o_int1 ?_ | refine o_int1b ?_ | refine o_abs ?_ | refine o_tupleL ?_ | refine o_tupleT ?_ | refine o_lenT ?_ | refine o_lenL ?_ | refine o_addI ?_ | refine s_varO rfl ?_ | refine ⟨⟨_, rfl⟩, ?_⟩ | refine ⟨_, _, _, rfl, rfl, rfl, ?_⟩ | refine ⟨_, rfl, ?_⟩ | refine ⟨rfl, ?_⟩ | refine ⟨?_, Nat.le_of_ble_eq_true rfl⟩ | refine o_mod (by omega) ?_ | refine o_mul (mul64 (by omega) (by omega)) ?_)
    refine ⟨⟨_, _, _, _, ns, rfl, Int.ediv_nonneg g1 (by omega), g2, g3, g4, g5, g6⟩, _, rfl, Int.emod_nonneg _ (by omega), Int.emod_lt_of_pos _ h0⟩
theorem s_draw {i t : Nat} {ds : List D} {S : SS} {mb : M D} {Q : D → SS → Prop} (h0 : S[i]? = some (.ow ds)) (h : Dk t ds) (ht : t ≤ 1000000000) (hb : (mb S).sat fun d S1 => ∃ b : Int, d = .int b ∧ S1[i]? = some (.ow ds) ∧ 0 < b ∧ b < 18446744073709551616 ∧
    ∀ v es, 0 ≤ v → v < b → Dk (t + 1) es → Q (.int v) (S1.set i (.ow es))) : (mFnM i f_law_draw (mCons mb mNil) S).sat Q := by
  refine s_apM h0 (s_cons (sat_mono hb fun d S1 ⟨b, e, h1, h2, h3, h4⟩ => s_nil ⟨ds, h1, ?_⟩))
  subst e
  refine sat_mono (draw_fn h ht h2 h3) fun r A' ⟨es, g1, g2, v, g3, g4, g5⟩ => ⟨es, g1, ?_⟩
  subst g3
  exact h4 v es g4 g5 g2
theorem law_of {n : Nat} {body : M Fl} {ns : List Int} (h : (body (.fz (.scr ns) :: List.replicate (n - 1) .no)).sat fun f _ => f = .rt (.bl true)) : ∃ A', fnM n [] body [.fz (.scr ns)] = .ok (.v (.bl true)) A' := by
  obtain ⟨r, A', e, hr⟩ := (s_fn (n := n) (mp := []) (body := body) (A := [.fz (.scr ns)]) (Q := fun r _ => r = .v (.bl true)) (sat_mono (r := body ([.fz (.scr ns)] ++ List.replicate (n - 1) .no)) h fun f S' e => by
    subst e
    exact ⟨rfl, rfl⟩))
  subst hr
  exact ⟨A', e⟩
theorem ix_range {ds : List D} {v : Int} (h0 : 0 ≤ v) (h1 : v < ds.length) : ∃ x, x ∈ ds ∧ dIx (.lst ds) (.int v) = some x := by
  have h2 : v.toNat < ds.length := by omega
  refine ⟨ds[v.toNat], List.getElem_mem h2, ?_⟩
  show atI ds v = _
  unfold atI ixN
  rw [if_pos h0, if_pos h1]
  show ds[v.toNat]? = _
  exact List.getElem?_eq_getElem h2
theorem o_ix {ds : List D} {v : Int} {Q : D → Prop} (h0 : 0 ≤ v) (h1 : v < ds.length) (q : ∀ x ∈ ds, Q x) : ∃ x, dIx (.lst ds) (.int v) = some x ∧ Q x := by
  obtain ⟨x, hx, e⟩ := ix_range h0 h1
  exact ⟨x, e, q x hx⟩
end Lib


set_option Elab.async false
set_option linter.all false
set_option maxRecDepth 100000
set_option maxHeartbeats 4000000
/-! Part P5: lists of numbers. -/
namespace Lib
open PySem PySem.Spec PyProof.Rows L2 Evl Q4

theorem trimI_mem {ns : List Int} {a : Int} (h : a ∈ trimI ns) : a ∈ ns := by
  unfold trimI at h
  have h1 := List.mem_reverse.mp h
  exact List.mem_reverse.mp ((List.dropWhile_sublist _).subset h1)
theorem trimI_len (ns : List Int) : (trimI ns).length ≤ ns.length := by
  unfold trimI
  rw [List.length_reverse]
  exact Nat.le_trans (List.dropWhile_sublist _).length_le (by simp)
theorem NZ_snoc {a : Int} (h : a ≠ 0) : ∀ ns : List Int, NZ (ns ++ [a])
  | [] => h
  | [b] => h
  | b :: c :: r => NZ_snoc h (c :: r)
theorem trimI_end : ∀ (n : Nat) (ns : List Int), ns.length = n → trimI ns = [] ∨ ∃ ys a, trimI ns = ys ++ [a] ∧ a ≠ 0 := fun n => by
  induction n with
  | zero =>
    intro ns h
    have : ns = [] := by cases ns <;> simp_all
    subst this
    exact .inl rfl
  | succ n ih =>
    intro ns h
    rcases List.eq_nil_or_concat ns with rfl | ⟨ys, a, rfl⟩
    · simp at h
    rw [List.concat_eq_append] at h ⊢
    by_cases e : a = 0
    · subst e
      rw [trimI_zero]
      exact ih ys (by simp at h; exact h)
    · exact .inr ⟨ys, a, trimI_ne ys e, e⟩
theorem trimI_nz (ns : List Int) : NZ (trimI ns) := by
  rcases trimI_end _ ns rfl with h | ⟨ys, a, h, e⟩
  · rw [h]; trivial
  · rw [h]; exact NZ_snoc e ys
theorem NZ_end {ns : List Int} (h : NZ ns) : ns = [] ∨ ∃ ys a, ns = ys ++ [a] ∧ a ≠ 0 := by
  rcases List.eq_nil_or_concat ns with rfl | ⟨ys, a, rfl⟩
  · exact .inl rfl
  rw [List.concat_eq_append] at h ⊢
  refine .inr ⟨ys, a, rfl, ?_⟩
  have : ∀ (xs ys : List Int), NZ (xs ++ ys) → NZ ys := fun xs => by
    induction xs with
    | nil => exact fun ys h => h
    | cons x xs ih =>
      intro ys h
      cases ys with
      | nil => trivial
      | cons y ys => exact ih _ (NZ.tail h)
  exact this ys [a] h
theorem trimI_fix {ns : List Int} (h : NZ ns) : trimI ns = ns := by
  rcases NZ_end h with rfl | ⟨ys, a, rfl, e⟩
  · rfl
  · exact trimI_ne ys e
theorem dig_trim {p : Int} {ns : List Int} (hp : 0 < p) : Dig p (trimI (ns.map (· % p))) := fun a ha => by
  obtain ⟨z, _, rfl⟩ := List.mem_map.mp (trimI_mem ha)
  exact ⟨Int.emod_nonneg _ (by omega), Int.emod_lt_of_pos _ hp⟩
theorem idx_snoc {p : Int} : ∀ (ns : List Int) (a : Int), idx p (ns ++ [a]) = idx p ns + a * p ^ ns.length
  | [], a => by
    show 0 * p + a = 0 + a * p ^ 0
    simp
  | b :: r, a => by
    show idx p (r ++ [a]) * p + b = idx p r * p + b + a * p ^ (r.length + 1)
    rw [idx_snoc r a, Int.pow_succ, Int.add_mul, ← Int.mul_assoc]
    omega
theorem pow_le10 {p : Int} (h : 3 ≤ p ∧ p ≤ 61) {i : Nat} (hi : i ≤ 10) : 0 ≤ p ^ i ∧ p ^ i ≤ 713342911662882601 := by
  have h1 : (0 : Int) ≤ p ^ i := Int.pow_nonneg (by omega)
  refine ⟨h1, ?_⟩
  have h2 : p.toNat ^ i ≤ 61 ^ 10 := Nat.le_trans (Nat.pow_le_pow_left (by omega) i) (Nat.pow_le_pow_right (by decide) hi)
  have h3 : ((p.toNat ^ i : Nat) : Int) = p ^ i := by
    rw [Int.natCast_pow]
    congr 1
    omega
  have h4 : (61 : Nat) ^ 10 = 713342911662882601 := by decide
  omega
/-- == and != of lists of numbers -/
theorem flats_IL : ∀ ns : List Int, D.flats (IL ns) = true
  | [] => rfl
  | n :: ns => by
    show (D.flat (.int n) && D.flats (IL ns)) = true
    rw [flats_IL ns]
    rfl
theorem lay_IL : ∀ ns : List Int, PyData.canLayAll0 (D.pys (IL ns)) = true
  | [] => rfl
  | n :: ns => by
    show (PyData.canLay0 (.int n) && PyData.canLayAll0 (D.pys (IL ns))) = true
    rw [lay_IL ns]
    rfl
theorem depth_IL : ∀ ns : List Int, PyData.depthAll (D.pys (IL ns)) = 0
  | [] => rfl
  | n :: ns => by
    show max (PyData.depth (.int n)) (PyData.depthAll (D.pys (IL ns))) = 0
    rw [depth_IL ns]
    rfl
theorem shaped_L (ns : List Int) : SeqAt.shaped (D.py (.lst (IL ns))) = true := by
  unfold SeqAt.shaped
  simp only [D.py, PyData.canLay0, PyData.depth, lay_IL, depth_IL]
  rfl
theorem shaped_T (ns : List Int) : SeqAt.shaped (D.py (.tup (IL ns))) = true := by
  unfold SeqAt.shaped
  simp only [D.py, PyData.canLay0, PyData.depth, lay_IL, depth_IL]
  rfl
theorem eqvAll_IL : ∀ ns ms : List Int, PyData.eqvAll (D.pys (IL ns)) (D.pys (IL ms)) = decide (ns = ms)
  | [], [] => rfl
  | [], _ :: _ => rfl
  | _ :: _, [] => rfl
  | n :: ns, m :: ms => by
    show (PyData.eqv (.int n) (.int m) && PyData.eqvAll (D.pys (IL ns)) (D.pys (IL ms))) = _
    rw [eqvAll_IL ns ms]
    by_cases h : n = m
    · subst h
      by_cases h2 : ns = ms
      · subst h2; simp [PyData.eqv]
      · simp [PyData.eqv, h2]
    · simp [PyData.eqv, h]
theorem eqX_L (ns ms : List Int) : dEqX (.lst (IL ns)) (.lst (IL ms)) = some (.bl (decide (ns = ms))) := by
  show (dEqB _ _).map D.bl = _
  unfold dEqB
  rw [shaped_L, shaped_L, show D.flat (.lst (IL ns)) = true by simpa [D.flat] using flats_IL ns, show D.flat (.lst (IL ms)) = true by simpa [D.flat] using flats_IL ms, if_pos (by decide), ← eqvAll_IL]
  simp [D.py, PyData.eqv]
theorem neX_L (ns ms : List Int) : dNeX (.lst (IL ns)) (.lst (IL ms)) = some (.bl (!decide (ns = ms))) := by
  show (dEqB _ _).map (fun b => D.bl (!b)) = _
  unfold dEqB
  rw [shaped_L, shaped_L, show D.flat (.lst (IL ns)) = true by simpa [D.flat] using flats_IL ns, show D.flat (.lst (IL ms)) = true by simpa [D.flat] using flats_IL ms, if_pos (by decide), ← eqvAll_IL]
  simp [D.py, PyData.eqv]
theorem eqX_T (ns ms : List Int) : dEqX (.tup (IL ns)) (.tup (IL ms)) = some (.bl (decide (ns = ms))) := by
  show (dEqB _ _).map D.bl = _
  unfold dEqB
  rw [shaped_T, shaped_T, show D.flat (.tup (IL ns)) = true by simpa [D.flat] using flats_IL ns, show D.flat (.tup (IL ms)) = true by simpa [D.flat] using flats_IL ms, if_pos (by decide), ← eqvAll_IL]
  simp [D.py, PyData.eqv]
theorem neX_T (ns ms : List Int) : dNeX (.tup (IL ns)) (.tup (IL ms)) = some (.bl (!decide (ns = ms))) := by
  show (dEqB _ _).map (fun b => D.bl (!b)) = _
  unfold dEqB
  rw [shaped_T, shaped_T, show D.flat (.tup (IL ns)) = true by simpa [D.flat] using flats_IL ns, show D.flat (.tup (IL ms)) = true by simpa [D.flat] using flats_IL ms, if_pos (by decide), ← eqvAll_IL]
  simp [D.py, PyData.eqv]
theorem o_catL {xs ys : List D} {Q : D → Prop} (h : xs.length + ys.length ≤ cap) (q : Q (.lst (xs ++ ys))) : ∃ d, dAddX (.lst xs) (.lst ys) = some d ∧ Q d := by
  refine ⟨_, ?_, q⟩
  show (dAdd (.lst xs) (.lst ys)).or ((dCat (.lst xs) (.lst ys)).map .lst) = _
  unfold dCat
  simp only
  rw [if_pos h]
  rfl
theorem o_repL {xs : List D} {k : Int} {Q : D → Prop} (h0 : -(2 ^ 63) ≤ k) (h1 : k < 2 ^ 63) (h : xs.length * k.toNat ≤ cap) (q : Q (.lst (List.replicate k.toNat xs).flatten)) : ∃ d, dMulX (.lst xs) (.int k) = some d ∧ Q d := by
  refine ⟨_, ?_, q⟩
  show ((dRep (.lst xs) (.int k)).map D.lst).or none = _
  unfold dRep
  simp only
  rw [if_pos ⟨h0, h1, h⟩]
  rfl
theorem o_repT {xs : List D} {k : Int} {Q : D → Prop} (h : -1000000 ≤ k ∧ k ≤ 1000000 ∧ xs.length * k.toNat ≤ 1000000 ∧ xs.length ≤ 1000000) (q : Q (.tup (List.replicate k.toNat xs).flatten)) : ∃ d, dMulX (.tup xs) (.int k) = some d ∧ Q d := by
  refine ⟨_, ?_, q⟩
  show dRepT (.tup xs) (.int k) = _
  unfold dRepT
  simp only
  rw [if_pos h]
theorem o_catT {xs ys : List D} {Q : D → Prop} (h : xs.length + ys.length ≤ cap) (q : Q (.tup (xs ++ ys))) : ∃ d, dAddX (.tup xs) (.tup ys) = some d ∧ Q d := by
  refine ⟨_, ?_, q⟩
  show (dAdd (.tup xs) (.tup ys)).or ((dCat (.tup xs) (.tup ys)).map .lst) = _
  rw [dAdd_tup, if_pos h]
  rfl
theorem idx_ge {p : Int} (hp : 2 ≤ p) : ∀ {ns : List Int}, ns ≠ [] → Dig p ns → NZ ns → (2 : Int) ^ (ns.length - 1) ≤ idx p ns
  | [], h, _, _ => absurd rfl h
  | [a], _, hd, hz => by
    have h1 := hd a List.mem_cons_self
    have h2 : a ≠ 0 := hz
    show (2 : Int) ^ 0 ≤ 0 * p + a
    simp
    omega
  | a :: b :: r, _, hd, hz => by
    have h1 := hd a List.mem_cons_self
    have h2 := idx_ge hp (ns := b :: r) (by simp) (fun c hc => hd c (List.mem_cons_of_mem _ hc)) hz
    show (2 : Int) ^ (r.length + 1) ≤ idx p (b :: r) * p + a
    rw [Int.pow_succ]
    have h3 : (2 : Int) ^ r.length * 2 ≤ idx p (b :: r) * 2 := Int.mul_le_mul_of_nonneg_right h2 (by decide)
    have h5 : 0 ≤ idx p (b :: r) := Int.le_trans (Int.pow_nonneg (by decide)) h2
    have h4 : idx p (b :: r) * 2 ≤ idx p (b :: r) * p := Int.mul_le_mul_of_nonneg_left hp h5
    omega
theorem digits_short {p n : Int} (hp : 2 ≤ p) (h0 : 0 ≤ n) {k : Nat} (hn : n < 2 ^ k) : ∃ ns : List Int, Dig p ns ∧ NZ ns ∧ idx p ns = n ∧ ns.length ≤ k := by
  obtain ⟨ns, h1, h2, h3, _⟩ := digits hp n.toNat
  have h3 : idx p ns = n := by omega
  refine ⟨ns, h1, h2, h3, ?_⟩
  by_cases he : ns = []
  · subst he; exact Nat.zero_le _
  have h4 := idx_ge hp he h1 h2
  rw [h3] at h4
  have h5 : (2 : Int) ^ (ns.length - 1) < 2 ^ k := Int.lt_of_le_of_lt h4 hn
  have h6 : ((2 ^ (ns.length - 1) : Nat) : Int) < ((2 ^ k : Nat) : Int) := by
    rw [Int.natCast_pow, Int.natCast_pow]
    exact h5
  have h7 : ns.length - 1 < k := (Nat.pow_lt_pow_iff_right (by decide)).mp (Int.ofNat_lt.mp h6)
  omega
theorem isPoly_IL {p : Int} {ns : List Int} (hd : Dig p ns) (hn : NZ ns) : isPolyD p (.tup (IL ns)) = true := by
  have h1 : (IL ns).all (isCountD 0 (some (p - 1))) = true := by
    refine List.all_eq_true.mpr fun x hx => ?_
    obtain ⟨a, ha, rfl⟩ := List.mem_map.mp hx
    have := hd a ha
    have h2 : a ≤ p - 1 := by omega
    simp [isCountD, this.1, h2]
  simp only [isPolyD, h1, Bool.true_and]
  rcases NZ_end hn with rfl | ⟨ys, a, rfl, ha⟩
  · rfl
  · simp [IL, ha]
end Lib


set_option Elab.async false
set_option linter.all false
set_option maxRecDepth 100000
set_option maxHeartbeats 4000000
/-! Part R: polynomials modulo p, told by their values at all integers. -/
namespace Lib
open PySem PySem.Spec PyProof.Rows L2 Evl Q4

/-! ### lists as functions -/
def addL : List Int → List Int → List Int
  | [], b => b
  | a, [] => a
  | x :: a, y :: b => (x + y) :: addL a b
def mulL : List Int → List Int → List Int
  | [], _ => []
  | x :: a, b => addL (b.map (x * ·)) (0 :: mulL a b)
@[simp] theorem idx_nil (B : Int) : idx B [] = 0 := rfl
@[simp] theorem idx_cons (B x : Int) (a : List Int) : idx B (x :: a) = idx B a * B + x := rfl
theorem idx_addL (B : Int) : ∀ a b : List Int, idx B (addL a b) = idx B a + idx B b
  | [], b => by simp [addL]
  | x :: a, [] => by simp [addL]
  | x :: a, y :: b => by
    simp only [addL, idx_cons, idx_addL B a b]
    grind
theorem idx_smul (B c : Int) : ∀ a : List Int, idx B (a.map (c * ·)) = c * idx B a
  | [] => by simp
  | x :: a => by
    simp only [List.map_cons, idx_cons, idx_smul B c a]
    grind
theorem idx_mulL (B : Int) : ∀ a b : List Int, idx B (mulL a b) = idx B a * idx B b
  | [], b => by simp [mulL]
  | x :: a, b => by
    simp only [mulL, idx_addL, idx_smul, idx_cons, idx_mulL B a b]
    grind
theorem idx_append (B : Int) : ∀ a b : List Int, idx B (a ++ b) = idx B a + idx B b * B ^ a.length
  | [], b => by simp
  | x :: a, b => by
    simp only [List.cons_append, idx_cons, idx_append B a b, List.length_cons, Int.pow_succ]
    grind
theorem idx_zeros (B : Int) : ∀ k : Nat, idx B (List.replicate k 0) = 0
  | 0 => rfl
  | k + 1 => by simp [List.replicate_succ, idx_zeros B k]
theorem idx_set (B c : Int) : ∀ (l : List Int) (k : Nat) (h : k < l.length), idx B (l.set k (l[k] + c)) = idx B l + c * B ^ k
  | [], k, h => absurd h (Nat.not_lt_zero _)
  | x :: l, 0, h => by simp; grind
  | x :: l, k + 1, h => by
    have := idx_set B c l k (Nat.lt_of_succ_lt_succ h)
    simp only [List.set_cons_succ, idx_cons, List.getElem_cons_succ, this, Int.pow_succ]
    grind
/-- values of a list, as a function -/
def Ev (f : Int → Int) : Prop := ∃ l : List Int, ∀ B, f B = idx B l
theorem Ev.idx (l : List Int) : Ev (fun B => idx B l) := ⟨l, fun _ => rfl⟩
theorem Ev.const (c : Int) : Ev (fun _ => c) := ⟨[c], fun B => by simp⟩
theorem Ev.add {f g : Int → Int} (hf : Ev f) (hg : Ev g) : Ev (fun B => f B + g B) := by
  obtain ⟨l, hl⟩ := hf
  obtain ⟨m, hm⟩ := hg
  exact ⟨addL l m, fun B => by simp only [idx_addL, hl, hm]⟩
theorem Ev.mul {f g : Int → Int} (hf : Ev f) (hg : Ev g) : Ev (fun B => f B * g B) := by
  obtain ⟨l, hl⟩ := hf
  obtain ⟨m, hm⟩ := hg
  exact ⟨mulL l m, fun B => by simp only [idx_mulL, hl, hm]⟩
theorem Ev.smul {f : Int → Int} (c : Int) (hf : Ev f) : Ev (fun B => c * f B) := (Ev.const c).mul hf
theorem Ev.pow {f : Int → Int} (hf : Ev f) : ∀ n : Nat, Ev (fun B => f B ^ n)
  | 0 => by simpa using Ev.const 1
  | n + 1 => by
    have := (Ev.pow hf n).mul hf
    simpa [Int.pow_succ] using this
theorem Ev.of {f g : Int → Int} (hf : Ev f) (h : ∀ B, g B = f B) : Ev g := by
  obtain ⟨l, hl⟩ := hf
  exact ⟨l, fun B => by rw [h, hl]⟩
/-- alike modulo p -/
def Md (p : Int) (f g : Int → Int) : Prop := ∃ q, Ev q ∧ ∀ B, f B = g B + p * q B
theorem Md.refl {p : Int} (f : Int → Int) : Md p f f := ⟨fun _ => 0, Ev.const 0, fun B => by simp⟩
theorem Md.of_eq {p : Int} {f g : Int → Int} (h : ∀ B, f B = g B) : Md p f g := ⟨fun _ => 0, Ev.const 0, fun B => by simp [h]⟩
theorem Md.symm {p : Int} {f g : Int → Int} (h : Md p f g) : Md p g f := by
  obtain ⟨q, hq, e⟩ := h
  exact ⟨fun B => -1 * q B, hq.smul (-1), fun B => by rw [e]; grind⟩
theorem Md.trans {p : Int} {f g h : Int → Int} (h1 : Md p f g) (h2 : Md p g h) : Md p f h := by
  obtain ⟨q, hq, e⟩ := h1
  obtain ⟨r, hr, e2⟩ := h2
  exact ⟨fun B => q B + r B, hq.add hr, fun B => by rw [e, e2]; grind⟩
theorem Md.add {p : Int} {f g f' g' : Int → Int} (h1 : Md p f g) (h2 : Md p f' g') : Md p (fun B => f B + f' B) (fun B => g B + g' B) := by
  obtain ⟨q, hq, e⟩ := h1
  obtain ⟨r, hr, e2⟩ := h2
  exact ⟨fun B => q B + r B, hq.add hr, fun B => by simp only [e, e2]; grind⟩
theorem Md.smul {p : Int} {f g : Int → Int} (c : Int) (h1 : Md p f g) : Md p (fun B => c * f B) (fun B => c * g B) := by
  obtain ⟨q, hq, e⟩ := h1
  exact ⟨fun B => c * q B, hq.smul c, fun B => by simp only [e]; grind⟩
theorem Md.mul {p : Int} {f g f' g' : Int → Int} (h1 : Md p f g) (h2 : Md p f' g') (hg : Ev g) (hf' : Ev f') : Md p (fun B => f B * f' B) (fun B => g B * g' B) := by
  obtain ⟨q, hq, e⟩ := h1
  obtain ⟨r, hr, e2⟩ := h2
  refine ⟨fun B => q B * f' B + g B * r B, (hq.mul hf').add (hg.mul hr), fun B => ?_⟩
  have a1 := e B
  have a2 := e2 B
  simp only [a1]
  grind
theorem Md.pow {p : Int} {f g : Int → Int} (h : Md p f g) (hf : Ev f) (hg : Ev g) : ∀ n : Nat, Md p (fun B => f B ^ n) (fun B => g B ^ n)
  | 0 => Md.of_eq fun B => by simp
  | n + 1 => by
    have := (Md.pow h hf hg n).mul h (hg.pow n) hf
    simpa [Int.pow_succ] using this

/-! ### the one form -/
def cn (p : Int) (a : List Int) : List Int := trimI (a.map (· % p))
theorem idx_trim (B : Int) : ∀ (n : Nat) (a : List Int), a.length = n → idx B (trimI a) = idx B a := fun n => by
  induction n with
  | zero =>
    intro a h
    have : a = [] := by cases a <;> simp_all
    subst this
    rfl
  | succ n ih =>
    intro a h
    rcases List.eq_nil_or_concat a with rfl | ⟨ys, c, rfl⟩
    · simp at h
    rw [List.concat_eq_append] at h ⊢
    by_cases e : c = 0
    · subst e
      rw [trimI_zero, ih ys (by simp at h; exact h), idx_append]
      simp
    · rw [trimI_ne ys e]
theorem idx_mod (B p : Int) : ∀ a : List Int, idx B a = idx B (a.map (· % p)) + p * idx B (a.map (· / p))
  | [] => by simp
  | x :: a => by
    have := Int.emod_add_mul_ediv x p
    simp only [List.map_cons, idx_cons]
    rw [idx_mod B p a]
    grind
theorem cn_md (p : Int) (a : List Int) : Md p (fun B => idx B (cn p a)) (fun B => idx B a) := by
  refine Md.symm ⟨fun B => idx B (a.map (· / p)), Ev.idx _, fun B => ?_⟩
  show idx B a = idx B (trimI (a.map (· % p))) + _
  rw [idx_trim B _ _ rfl]
  exact idx_mod B p a
theorem cn_dig {p : Int} (hp : 0 < p) (a : List Int) : Dig p (cn p a) := dig_trim hp
theorem cn_nz (p : Int) (a : List Int) : NZ (cn p a) := trimI_nz _
theorem cn_len (p : Int) (a : List Int) : (cn p a).length ≤ a.length := by
  refine Nat.le_trans (trimI_len _) ?_
  simp
theorem idx_hd (B : Int) (a : List Int) : idx B a = idx B a.tail * B + a.headD 0 := by
  cases a <;> simp
theorem uniq {p : Int} (hp : 0 < p) : ∀ (n : Nat) (a b q : List Int), a.length ≤ n → b.length ≤ n → Dig p a → Dig p b → NZ a → NZ b → (∀ B : Int, 1 ≤ B → idx B a = idx B b + p * idx B q) → a = b := fun n => by
  induction n with
  | zero =>
    intro a b q ha hb _ _ _ _ _
    cases a <;> cases b <;> simp_all
  | succ n ih =>
    intro a b q ha hb da db na nb h
    -- the lowest numbers agree
    have h0 : a.headD 0 = b.headD 0 + p * q.headD 0 := by
      generalize hc : a.headD 0 - (b.headD 0 + p * q.headD 0) = c
      have hd : ∀ B : Int, 1 ≤ B → B ∣ c := fun B hB => by
        have e := h B hB
        rw [idx_hd B a, idx_hd B b, idx_hd B q] at e
        refine ⟨idx B b.tail + p * idx B q.tail - idx B a.tail, ?_⟩
        grind
      have h1 := hd ((c.natAbs : Int) + 1) (by omega)
      have : c = 0 := by
        by_cases z : c = 0
        · exact z
        · have h2 := Int.le_of_dvd (a := (c.natAbs : Int) + 1) (b := (c.natAbs : Int)) (by omega) (Int.dvd_natAbs.mpr h1)
          omega
      omega
    have r1 : 0 ≤ a.headD 0 ∧ a.headD 0 < p := by
      cases a with
      | nil => exact ⟨Int.le_refl _, hp⟩
      | cons x r => exact da x List.mem_cons_self
    have r2 : 0 ≤ b.headD 0 ∧ b.headD 0 < p := by
      cases b with
      | nil => exact ⟨Int.le_refl _, hp⟩
      | cons x r => exact db x List.mem_cons_self
    have hq0 : q.headD 0 = 0 := by
      by_cases z : q.headD 0 = 0
      · exact z
      · exfalso
        rcases Int.lt_or_gt_of_ne z with z | z
        · have : p * q.headD 0 ≤ p * (-1) := Int.mul_le_mul_of_nonneg_left (by omega) (by omega)
          omega
        · have : p * 1 ≤ p * q.headD 0 := Int.mul_le_mul_of_nonneg_left (by omega) (by omega)
          omega
    rw [hq0] at h0
    have ht : a.tail = b.tail := by
      refine ih a.tail b.tail q.tail (by simp; omega) (by simp; omega) (fun x hx => da x (List.mem_of_mem_tail hx)) (fun x hx => db x (List.mem_of_mem_tail hx)) ?_ ?_ fun B hB => ?_
      · cases a with
        | nil => trivial
        | cons x r => exact na.tail
      · cases b with
        | nil => trivial
        | cons x r => exact nb.tail
      · have e := h B hB
        rw [idx_hd B a, idx_hd B b, idx_hd B q, hq0] at e
        have e2 : (idx B a.tail - (idx B b.tail + p * idx B q.tail)) * B = 0 := by grind
        rcases Int.mul_eq_zero.mp e2 with z | z
        · omega
        · omega
    cases a with
    | nil =>
      cases b with
      | nil => rfl
      | cons y r =>
        simp at ht h0
        subst ht
        have : y ≠ 0 := nb
        omega
    | cons x r =>
      cases b with
      | nil =>
        simp at ht h0
        subst ht
        have : x ≠ 0 := na
        omega
      | cons y s =>
        simp at ht h0
        rw [ht, h0]
theorem cn_uniq {p : Int} (hp : 0 < p) {r s : List Int} (h1 : Dig p r) (h2 : NZ r) (h3 : Dig p s) (h4 : NZ s) (h : Md p (fun B => idx B r) (fun B => idx B s)) : r = s := by
  obtain ⟨q, ⟨l, hl⟩, e⟩ := h
  refine uniq hp (max r.length s.length) r s l (by omega) (by omega) h1 h3 h2 h4 fun B _ => ?_
  have := e B
  rw [hl] at this
  exact this
theorem cn_eq {p : Int} (hp : 0 < p) {a b : List Int} (h : Md p (fun B => idx B a) (fun B => idx B b)) : cn p a = cn p b :=
  cn_uniq hp (cn_dig hp a) (cn_nz p a) (cn_dig hp b) (cn_nz p b) (((cn_md p a).trans h).trans (cn_md p b).symm)
theorem cn_self {p : Int} {a : List Int} (hd : Dig p a) (hn : NZ a) : cn p a = a := by
  unfold cn
  rw [show a.map (· % p) = a by
    conv => rhs; rw [← List.map_id a]
    exact List.map_congr_left fun x hx => Int.emod_eq_of_lt (hd x hx).1 (hd x hx).2]
  exact trimI_fix hn
def mulC (p : Int) (a b : List Int) : List Int := cn p (mulL a b)
def addC (p : Int) (a b : List Int) (x : Int) : List Int := cn p (addL a (b.map (x * ·)))
theorem mulC_md (p : Int) (a b : List Int) : Md p (fun B => idx B (mulC p a b)) (fun B => idx B a * idx B b) := (cn_md p _).trans (Md.of_eq fun B => idx_mulL B a b)
theorem addC_md (p : Int) (a b : List Int) (x : Int) : Md p (fun B => idx B (addC p a b x)) (fun B => idx B a + x * idx B b) := (cn_md p _).trans (Md.of_eq fun B => by rw [idx_addL, idx_smul])
/-- a list with the values of a product is it, in the one form -/
theorem cn_mul {p : Int} (hp : 0 < p) {m a b : List Int} (h : ∀ B, idx B m = idx B a * idx B b) : cn p m = mulC p a b := cn_eq hp (Md.of_eq fun B => by rw [h, idx_mulL])
theorem cn_add {p : Int} (hp : 0 < p) {m a b : List Int} {x : Int} (h : ∀ B, idx B m = idx B a + x * idx B b) : cn p m = addC p a b x := cn_eq hp (Md.of_eq fun B => by rw [h, idx_addL, idx_smul])
end Lib


set_option Elab.async false
set_option linter.all false
set_option maxRecDepth 100000
set_option maxHeartbeats 4000000
/-! Part S: sums, products, powers of polynomials. -/
namespace Lib
open PySem PySem.Spec PyProof.Rows L2 Evl Q4

def Bd (ns : List Int) : Prop := ∀ a ∈ ns, a.natAbs < 18446744073709551616
theorem Dig.bd {p : Int} {ns : List Int} (h : Dig p ns) (hp : p ≤ 61) : Bd ns := fun a ha => by have := h a ha; omega
theorem IL_len (ns : List Int) : (IL ns).length = ns.length := by simp [IL]
theorem IL_get {ns : List Int} {i : Nat} (h : i < ns.length) : (IL ns)[i]? = some (.int ns[i]) := by simp [IL, List.getElem?_map, List.getElem?_eq_getElem h]
theorem IL_set (ns : List Int) (i : Nat) (c : Int) : (IL ns).set i (.int c) = IL (ns.set i c) := by simp [IL, List.map_set]
theorem at_nat {ds : List D} {i : Nat} (h : i < ds.length) : atI ds (i : Int) = ds[i]? := by
  unfold atI ixN
  rw [if_pos (by omega), if_pos (by omega)]
  rfl
theorem ixN_nat {n i : Nat} (h : i < n) : ixN n (i : Int) = some i := by
  unfold ixN
  rw [if_pos (by omega), if_pos (by omega)]
  rfl
theorem at_IL {ns : List Int} {i : Nat} (h : i < ns.length) : atI (IL ns) (i : Int) = some (.int ns[i]) := by
  rw [at_nat (by rw [IL_len]; exact h), IL_get h]
theorem s_augI {k : Nat} {S : SS} {mi me : M D} {m : List Int} {Q : Fl → SS → Prop} (h0 : S[k]? = some (.ow (IL m))) (h : (mi S).sat fun i S1 => S1 = S ∧ ∃ j : Nat, i = .int j ∧ ∃ hj : j < m.length, (me S).sat fun b S2 => S2 = S ∧ ∃ c : Int, b = .int c ∧ Q .nx (S.set k (.ow (IL (m.set j (m[j] + c)))))) :
    (mAugIx k dAddI mi me S).sat Q := by
  refine s_augIx h0 (sat_mono h fun i S1 ⟨e1, j, e2, hj, h2⟩ => ?_)
  subst e1 e2
  refine ⟨IL m, j, .int m[j], h0, rfl, at_IL hj, sat_mono h2 fun b S2 ⟨e3, c, e4, q⟩ => ?_⟩
  subst e3 e4
  exact ⟨.int (m[j] + c), IL m, j, rfl, h0, ixN_nat (by rw [IL_len]; exact hj), by rw [IL_set]; exact q⟩
theorem s_setI {k : Nat} {S : SS} {mi me : M D} {m : List Int} {Q : Fl → SS → Prop} (h0 : S[k]? = some (.ow (IL m))) (h : (me S).sat fun b S1 => S1 = S ∧ ∃ c : Int, b = .int c ∧ (mi S).sat fun i S2 => S2 = S ∧ ∃ j : Nat, i = .int j ∧ j < m.length ∧ Q .nx (S.set k (.ow (IL (m.set j c))))) :
    (mSetIx k mi me S).sat Q := by
  refine s_setIx (sat_mono h fun b S1 ⟨e1, c, e2, h2⟩ => ?_)
  subst e1 e2
  refine ⟨⟨_, h0⟩, sat_mono h2 fun i S2 ⟨e3, j, e4, hj, q⟩ => ?_⟩
  subst e3 e4
  exact ⟨IL m, j, j, h0, rfl, ixN_nat (by rw [IL_len]; exact hj), by rw [IL_set]; exact q⟩
/-! ### sums -/
theorem idx_zipW (B x : Int) : ∀ l r : List Int, l.length = r.length → idx B (List.zipWith (fun u v => u + x * v) l r) = idx B l + x * idx B r
  | [], [], _ => by simp
  | u :: l, v :: r, h => by
    have := idx_zipW B x l r (by simpa using h)
    simp only [List.zipWith_cons_cons, idx_cons, this]
    grind
theorem idx_pad (B : Int) (a : List Int) (k : Nat) : idx B (a ++ List.replicate k 0) = idx B a := by rw [idx_append, idx_zeros]; simp
theorem rep_IL (k : Nat) : (List.replicate k [D.int 0]).flatten = IL (List.replicate k 0) := by simp [IL]
theorem ap_combined {p x : Int} {a b : List Int} (hp : 0 < p) (hx : x.natAbs < 18446744073709551616) (hb : Bd b) (la : a.length ≤ 100000) (lb : b.length ≤ 100000) : Ap f_combined [.int p, .tup (IL a), .tup (IL b), .int x] (.tup (IL (addC p a b x))) := by
  have hc : cap = 10000000 := rfl
  refine ap_fn ?_
  show (m_combined [.fz (.int p), .fz (.tup (IL a)), .fz (.tup (IL b)), .fz (.int x), .no, .no, .no, .no, .no]).sat _
  obtain ⟨n, hn, hna, hnb, hnl⟩ : ∃ n : Nat, (if ((IL b).length : Int) > ((IL a).length : Int) then ((IL b).length : Int) else ((IL a).length : Int)) = n ∧ a.length ≤ n ∧ b.length ≤ n ∧ n ≤ 100000 := by
    rw [IL_len, IL_len]
    by_cases h : b.length > a.length
    · exact ⟨b.length, by rw [if_pos (by omega)], by omega, by omega, lb⟩
    · exact ⟨a.length, by rw [if_neg (by omega)], by omega, by omega, la⟩
  repeat (first | refine s_last ?_ | refine s_seq ?_ | refine s_asgN ?_ | refine s_bin ?_ | refine s_un ?_ | refine s_C ?_ | refine s_var rfl ?_ | refine s_ixV rfl ?_ | refine s_ixO rfl ?_ | refine s_cons ?_ | refine s_nil ?_ | refine s_call ?_ | refine s_callL ?_ | refine s_test ?_ | refine s_tru ?_ | refine s_truV rfl ?_ | refine s_truO rfl ?_ | refine s_len rfl ?_ | refine s_lenO rfl ?_ | refine s_notT ?_ | refine s_notX ?_ | refine s_notN rfl ?_ | refine s_notO rfl ?_ | refine s_and ?_ | refine s_or ?_ | refine s_tup ?_ | refine s_fz ?_ | refine s_lst ?_ | refine s_isi ?_ | refine s_andV ?_ | refine s_orV ?_ | refine s_if ?_ | refine s_chain ?_ | refine s_slX ?_ | refine s_rev ?_ | refine s_part ?_ | refine s_noPart ?_ | refine s_asgL ?_ | refine s_par ?_ | refine s_aug rfl ?_ | refine s_app rfl ?_ | refine s_ret ?_ | refine s_retV rfl ?_ | refine s_retO rfl ?_ | refine s_retL ?_ | refine s_drop ?_ | refine s_ifS ?_ | refine s_nx ?_ | refine s_setIx ?_ | refine s_items ?_ | refine s_enum ?_ | refine s_zip ?_ | refine s_rng1 ?_ | refine s_rng2 ?_ | refine s_ap ?_ | refine s_apL ?_ | refine s_yes ?_ | refine s_binL ?_ | refine o_add ?_ | refine o_sub ?_ | refine o_lt ?_ | refine o_le ?_ | refine o_gt ?_ | refine o_ge ?_ | refine o_eq ?_ | refine o_ne ?_ | refine o_neg ?_ | refine o_int1 ?_ | refine o_int1b ?_ | refine o_abs ?_ | refine o_tupleL ?_ | refine o_tupleT ?_ | refine o_lenT ?_ | refine o_lenL ?_ | refine o_addI ?_ | refine s_varO rfl ?_ | refine ⟨⟨_, rfl⟩, ?_⟩ | refine ⟨_, _, _, rfl, rfl, rfl, ?_⟩ | refine ⟨_, rfl, ?_⟩ | refine ⟨rfl, ?_⟩ | refine ⟨?_, Nat.le_of_ble_eq_true rfl⟩ | refine o_mod (by omega) ?_ | refine o_mul (mul64 (by omega) (by omega)) ?_)
  rw [hn]
  refine o_repT (by rw [List.length_singleton]; omega) ?_
  rw [show ((n : Int) + -((IL a).length : Int)).toNat = n - a.length by rw [IL_len]; omega, rep_IL]
  refine o_catT (by rw [IL_len, IL_len, List.length_replicate]; omega) ?_
  repeat (first | refine s_last ?_ | refine s_seq ?_ | refine s_asgN ?_ | refine s_bin ?_ | refine s_un ?_ | refine s_C ?_ | refine s_var rfl ?_ | refine s_ixV rfl ?_ | refine s_ixO rfl ?_ | refine s_cons ?_ | refine s_nil ?_ | refine s_call ?_ | refine s_callL ?_ | refine s_test ?_ | refine s_tru ?_ | refine s_truV rfl ?_ | refine s_truO rfl ?_ | refine s_len rfl ?_ | refine s_lenO rfl ?_ | refine s_notT ?_ | refine s_notX ?_ | refine s_notN rfl ?_ | refine s_notO rfl ?_ | refine s_and ?_ | refine s_or ?_ | refine s_tup ?_ | refine s_fz ?_ | refine s_lst ?_ | refine s_isi ?_ | refine s_andV ?_ | refine s_orV ?_ | refine s_if ?_ | refine s_chain ?_ | refine s_slX ?_ | refine s_rev ?_ | refine s_part ?_ | refine s_noPart ?_ | refine s_asgL ?_ | refine s_par ?_ | refine s_aug rfl ?_ | refine s_app rfl ?_ | refine s_ret ?_ | refine s_retV rfl ?_ | refine s_retO rfl ?_ | refine s_retL ?_ | refine s_drop ?_ | refine s_ifS ?_ | refine s_nx ?_ | refine s_setIx ?_ | refine s_items ?_ | refine s_enum ?_ | refine s_zip ?_ | refine s_rng1 ?_ | refine s_rng2 ?_ | refine s_ap ?_ | refine s_apL ?_ | refine s_yes ?_ | refine s_binL ?_ | refine o_add ?_ | refine o_sub ?_ | refine o_lt ?_ | refine o_le ?_ | refine o_gt ?_ | refine o_ge ?_ | refine o_eq ?_ | refine o_ne ?_ | refine o_neg ?_ | refine o_int1 ?_ | refine o_int1b ?_ | refine o_abs ?_ | refine o_tupleL ?_ | refine o_tupleT ?_ | refine o_lenT ?_ | refine o_lenL ?_ | refine o_addI ?_ | refine s_varO rfl ?_ | refine ⟨⟨_, rfl⟩, ?_⟩ | refine ⟨_, _, _, rfl, rfl, rfl, ?_⟩ | refine ⟨_, rfl, ?_⟩ | refine ⟨rfl, ?_⟩ | refine ⟨?_, Nat.le_of_ble_eq_true rfl⟩ | refine o_mod (by omega) ?_ | refine o_mul (mul64 (by omega) (by omega)) ?_)
  refine o_repT (by rw [List.length_singleton]; omega) ?_
  rw [show ((n : Int) + -((IL b).length : Int)).toNat = n - b.length by rw [IL_len]; omega, rep_IL]
  refine o_catT (by rw [IL_len, IL_len, List.length_replicate]; omega) ?_
  rw [show IL a ++ IL (List.replicate (n - a.length) 0) = IL (a ++ List.replicate (n - a.length) 0) by simp [IL], show IL b ++ IL (List.replicate (n - b.length) 0) = IL (b ++ List.replicate (n - b.length) 0) by simp [IL]]
  repeat (first | refine s_last ?_ | refine s_seq ?_ | refine s_asgN ?_ | refine s_bin ?_ | refine s_un ?_ | refine s_C ?_ | refine s_var rfl ?_ | refine s_ixV rfl ?_ | refine s_ixO rfl ?_ | refine s_cons ?_ | refine s_nil ?_ | refine s_call ?_ | refine s_callL ?_ | refine s_test ?_ | refine s_tru ?_ | refine s_truV rfl ?_ | refine s_truO rfl ?_ | refine s_len rfl ?_ | refine s_lenO rfl ?_ | refine s_notT ?_ | refine s_notX ?_ | refine s_notN rfl ?_ | refine s_notO rfl ?_ | refine s_and ?_ | refine s_or ?_ | refine s_tup ?_ | refine s_fz ?_ | refine s_lst ?_ | refine s_isi ?_ | refine s_andV ?_ | refine s_orV ?_ | refine s_if ?_ | refine s_chain ?_ | refine s_slX ?_ | refine s_rev ?_ | refine s_part ?_ | refine s_noPart ?_ | refine s_asgL ?_ | refine s_par ?_ | refine s_aug rfl ?_ | refine s_app rfl ?_ | refine s_ret ?_ | refine s_retV rfl ?_ | refine s_retO rfl ?_ | refine s_retL ?_ | refine s_drop ?_ | refine s_ifS ?_ | refine s_nx ?_ | refine s_setIx ?_ | refine s_items ?_ | refine s_enum ?_ | refine s_zip ?_ | refine s_rng1 ?_ | refine s_rng2 ?_ | refine s_ap ?_ | refine s_apL ?_ | refine s_yes ?_ | refine s_binL ?_ | refine o_add ?_ | refine o_sub ?_ | refine o_lt ?_ | refine o_le ?_ | refine o_gt ?_ | refine o_ge ?_ | refine o_eq ?_ | refine o_ne ?_ | refine o_neg ?_ | refine o_int1 ?_ | refine o_int1b ?_ | refine o_abs ?_ | refine o_tupleL ?_ | refine o_tupleT ?_ | refine o_lenT ?_ | refine o_lenL ?_ | refine o_addI ?_ | refine s_varO rfl ?_ | refine ⟨⟨_, rfl⟩, ?_⟩ | refine ⟨_, _, _, rfl, rfl, rfl, ?_⟩ | refine ⟨_, rfl, ?_⟩ | refine ⟨rfl, ?_⟩ | refine ⟨?_, Nat.le_of_ble_eq_true rfl⟩ | refine o_mod (by omega) ?_ | refine o_mul (mul64 (by omega) (by omega)) ?_)
  refine s_map (fun d => match d with | .tup [.int u, .int v] => .int (u + x * v) | d => d) ?_
  repeat (first | refine s_last ?_ | refine s_seq ?_ | refine s_asgN ?_ | refine s_bin ?_ | refine s_un ?_ | refine s_C ?_ | refine s_var rfl ?_ | refine s_ixV rfl ?_ | refine s_ixO rfl ?_ | refine s_cons ?_ | refine s_nil ?_ | refine s_call ?_ | refine s_callL ?_ | refine s_test ?_ | refine s_tru ?_ | refine s_truV rfl ?_ | refine s_truO rfl ?_ | refine s_len rfl ?_ | refine s_lenO rfl ?_ | refine s_notT ?_ | refine s_notX ?_ | refine s_notN rfl ?_ | refine s_notO rfl ?_ | refine s_and ?_ | refine s_or ?_ | refine s_tup ?_ | refine s_fz ?_ | refine s_lst ?_ | refine s_isi ?_ | refine s_andV ?_ | refine s_orV ?_ | refine s_if ?_ | refine s_chain ?_ | refine s_slX ?_ | refine s_rev ?_ | refine s_part ?_ | refine s_noPart ?_ | refine s_asgL ?_ | refine s_par ?_ | refine s_aug rfl ?_ | refine s_app rfl ?_ | refine s_ret ?_ | refine s_retV rfl ?_ | refine s_retO rfl ?_ | refine s_retL ?_ | refine s_drop ?_ | refine s_ifS ?_ | refine s_nx ?_ | refine s_setIx ?_ | refine s_items ?_ | refine s_enum ?_ | refine s_zip ?_ | refine s_rng1 ?_ | refine s_rng2 ?_ | refine s_ap ?_ | refine s_apL ?_ | refine s_yes ?_ | refine s_binL ?_ | refine o_add ?_ | refine o_sub ?_ | refine o_lt ?_ | refine o_le ?_ | refine o_gt ?_ | refine o_ge ?_ | refine o_eq ?_ | refine o_ne ?_ | refine o_neg ?_ | refine o_int1 ?_ | refine o_int1b ?_ | refine o_abs ?_ | refine o_tupleL ?_ | refine o_tupleT ?_ | refine o_lenT ?_ | refine o_lenL ?_ | refine o_addI ?_ | refine s_varO rfl ?_ | refine ⟨⟨_, rfl⟩, ?_⟩ | refine ⟨_, _, _, rfl, rfl, rfl, ?_⟩ | refine ⟨_, rfl, ?_⟩ | refine ⟨rfl, ?_⟩ | refine ⟨?_, Nat.le_of_ble_eq_true rfl⟩ | refine o_mod (by omega) ?_ | refine o_mul (mul64 (by omega) (by omega)) ?_)
  refine ⟨_, _, .inr rfl, rfl, ?_, fun d hd => ?_, ?_⟩
  · unfold zipD
    rw [List.length_zipWith, IL_len, IL_len]
    simp
    omega
  · obtain ⟨i, hi, hd⟩ := List.getElem_of_mem hd
    obtain ⟨u, v, hu, hv, e⟩ := zipD_get (List.getElem?_eq_some_iff.mpr ⟨hi, hd⟩)
    obtain ⟨u', _, rfl⟩ := List.mem_map.mp (List.mem_of_getElem? hu)
    obtain ⟨v', hv', rfl⟩ := List.mem_map.mp (List.mem_of_getElem? hv)
    subst e
    have hvb : v'.natAbs < 18446744073709551616 := by
      rcases List.mem_append.mp hv' with h | h
      · exact hb v' h
      · rw [(List.mem_replicate.mp h).2]; decide
    refine ⟨_, rfl, ?_⟩
    repeat (first | refine s_last ?_ | refine s_seq ?_ | refine s_asgN ?_ | refine s_bin ?_ | refine s_un ?_ | refine s_C ?_ | refine s_var rfl ?_ | refine s_ixV rfl ?_ | refine s_ixO rfl ?_ | refine s_cons ?_ | refine s_nil ?_ | refine s_call ?_ | refine s_callL ?_ | refine s_test ?_ | refine s_tru ?_ | refine s_truV rfl ?_ | refine s_truO rfl ?_ | refine s_len rfl ?_ | refine s_lenO rfl ?_ | refine s_notT ?_ | refine s_notX ?_ | refine s_notN rfl ?_ | refine s_notO rfl ?_ | refine s_and ?_ | refine s_or ?_ | refine s_tup ?_ | refine s_fz ?_ | refine s_lst ?_ | refine s_isi ?_ | refine s_andV ?_ | refine s_orV ?_ | refine s_if ?_ | refine s_chain ?_ | refine s_slX ?_ | refine s_rev ?_ | refine s_part ?_ | refine s_noPart ?_ | refine s_asgL ?_ | refine s_par ?_ | refine s_aug rfl ?_ | refine s_app rfl ?_ | refine s_ret ?_ | refine s_retV rfl ?_ | refine s_retO rfl ?_ | refine s_retL ?_ | refine s_drop ?_ | refine s_ifS ?_ | refine s_nx ?_ | refine s_setIx ?_ | refine s_items ?_ | refine s_enum ?_ | refine s_zip ?_ | refine s_rng1 ?_ | refine s_rng2 ?_ | refine s_ap ?_ | refine s_apL ?_ | refine s_yes ?_ | refine s_binL ?_ | refine o_add ?_ | refine o_sub ?_ | refine o_lt ?_ | refine o_le ?_ | refine o_gt ?_ | refine o_ge ?_ | refine o_eq ?_ | refine o_ne ?_ | refine o_neg ?_ | refine o_int1 ?_ | refine o_int1b ?_ | refine o_abs ?_ | refine o_tupleL ?_ | refine o_tupleT ?_ | refine o_lenT ?_ | refine o_lenL ?_ | refine o_addI ?_ | refine s_varO rfl ?_ | refine ⟨⟨_, rfl⟩, ?_⟩ | refine ⟨_, _, _, rfl, rfl, rfl, ?_⟩ | refine ⟨_, rfl, ?_⟩ | refine ⟨rfl, ?_⟩ | refine ⟨?_, Nat.le_of_ble_eq_true rfl⟩ | refine o_mod (by omega) ?_ | refine o_mul (mul64 (by omega) (by omega)) ?_)
    rfl
  have e3 : (zipD (IL (a ++ List.replicate (n - a.length) 0)) (IL (b ++ List.replicate (n - b.length) 0))).map (fun d => match d with | .tup [.int u, .int v] => .int (u + x * v) | d => d) = IL (List.zipWith (fun u v => u + x * v) (a ++ List.replicate (n - a.length) 0) (b ++ List.replicate (n - b.length) 0)) := by
    unfold zipD IL
    rw [List.map_zipWith, List.zipWith_map, List.map_zipWith]
  rw [e3]
  repeat (first | refine s_last ?_ | refine s_seq ?_ | refine s_asgN ?_ | refine s_bin ?_ | refine s_un ?_ | refine s_C ?_ | refine s_var rfl ?_ | refine s_ixV rfl ?_ | refine s_ixO rfl ?_ | refine s_cons ?_ | refine s_nil ?_ | refine s_call ?_ | refine s_callL ?_ | refine s_test ?_ | refine s_tru ?_ | refine s_truV rfl ?_ | refine s_truO rfl ?_ | refine s_len rfl ?_ | refine s_lenO rfl ?_ | refine s_notT ?_ | refine s_notX ?_ | refine s_notN rfl ?_ | refine s_notO rfl ?_ | refine s_and ?_ | refine s_or ?_ | refine s_tup ?_ | refine s_fz ?_ | refine s_lst ?_ | refine s_isi ?_ | refine s_andV ?_ | refine s_orV ?_ | refine s_if ?_ | refine s_chain ?_ | refine s_slX ?_ | refine s_rev ?_ | refine s_part ?_ | refine s_noPart ?_ | refine s_asgL ?_ | refine s_par ?_ | refine s_aug rfl ?_ | refine s_app rfl ?_ | refine s_ret ?_ | refine s_retV rfl ?_ | refine s_retO rfl ?_ | refine s_retL ?_ | refine s_drop ?_ | refine s_ifS ?_ | refine s_nx ?_ | refine s_setIx ?_ | refine s_items ?_ | refine s_enum ?_ | refine s_zip ?_ | refine s_rng1 ?_ | refine s_rng2 ?_ | refine s_ap ?_ | refine s_apL ?_ | refine s_yes ?_ | refine s_binL ?_ | refine o_add ?_ | refine o_sub ?_ | refine o_lt ?_ | refine o_le ?_ | refine o_gt ?_ | refine o_ge ?_ | refine o_eq ?_ | refine o_ne ?_ | refine o_neg ?_ | refine o_int1 ?_ | refine o_int1b ?_ | refine o_abs ?_ | refine o_tupleL ?_ | refine o_tupleT ?_ | refine o_lenT ?_ | refine o_lenL ?_ | refine o_addI ?_ | refine s_varO rfl ?_ | refine ⟨⟨_, rfl⟩, ?_⟩ | refine ⟨_, _, _, rfl, rfl, rfl, ?_⟩ | refine ⟨_, rfl, ?_⟩ | refine ⟨rfl, ?_⟩ | refine ⟨?_, Nat.le_of_ble_eq_true rfl⟩ | refine o_mod (by omega) ?_ | refine o_mul (mul64 (by omega) (by omega)) ?_)
  refine ⟨_, ap_trimmed (.inl rfl) hp ?_, ?_⟩
  · rw [List.length_zipWith]
    simp
    omega
  have e4 := cn_add hp (m := List.zipWith (fun u v => u + x * v) (a ++ List.replicate (n - a.length) 0) (b ++ List.replicate (n - b.length) 0)) (a := a) (b := b) (x := x) fun B => by
    rw [idx_zipW B x _ _ (by simp; omega), idx_pad, idx_pad]
  rw [← e4]
  rfl
end Lib


set_option Elab.async false
set_option linter.all false
set_option maxRecDepth 100000
set_option maxHeartbeats 4000000
/-! Part S2: products, powers. -/
namespace Lib
open PySem PySem.Spec PyProof.Rows L2 Evl Q4

theorem ap_sum_of {p : Int} {a b : List Int} (hp : 0 < p) (hb : Bd b) (la : a.length ≤ 100000) (lb : b.length ≤ 100000) : Ap f_sum_of [.int p, .tup (IL a), .tup (IL b)] (.tup (IL (addC p a b 1))) := by
  refine ap_fn ?_
  show (m_sum_of [.fz (.int p), .fz (.tup (IL a)), .fz (.tup (IL b))]).sat _
  refine s_last (s_ret (s_ap (s_cons (s_var rfl (s_cons (s_var rfl (s_cons (s_var rfl (s_cons (s_C (s_nil ⟨_, ap_combined hp (by decide) hb la lb, rfl⟩)))))))))))
theorem ap_difference {p : Int} {a b : List Int} (hp : 0 < p) (hb : Bd b) (la : a.length ≤ 100000) (lb : b.length ≤ 100000) : Ap f_difference [.int p, .tup (IL a), .tup (IL b)] (.tup (IL (addC p a b (-1)))) := by
  refine ap_fn ?_
  show (m_difference [.fz (.int p), .fz (.tup (IL a)), .fz (.tup (IL b))]).sat _
  refine s_last (s_ret (s_ap (s_cons (s_var rfl (s_cons (s_var rfl (s_cons (s_var rfl (s_cons (s_un (s_C (o_neg (s_nil ⟨_, ap_combined hp (by decide) hb la lb, rfl⟩)))))))))))))
theorem enum_IL {a : List Int} {i : Nat} {d : D} (h : (enumD 0 (IL a))[i]? = some d) : ∃ hi : i < a.length, d = .tup [.int i, .int a[i]] := by
  rw [enumD_get, Nat.zero_add] at h
  obtain ⟨x, hx, rfl⟩ := Option.map_eq_some_iff.mp h
  have hi : i < a.length := by have := (List.getElem?_eq_some_iff.mp hx).1; rwa [IL_len] at this
  rw [IL_get hi] at hx
  cases hx
  exact ⟨hi, rfl⟩
theorem idx_take (B : Int) {b : List Int} {j : Nat} (h : j < b.length) : idx B (b.take (j + 1)) = idx B (b.take j) + b[j] * B ^ j := by
  rw [List.take_add_one, List.getElem?_eq_getElem h]
  show idx B (b.take j ++ [b[j]]) = _
  rw [idx_snoc, List.length_take, Nat.min_eq_left (by omega)]
theorem mulL_nil (a : List Int) : ∀ B, idx B (mulL a []) = 0 := fun B => by rw [idx_mulL]; simp
theorem mulC_nil {p : Int} (hp : 0 < p) {a b : List Int} (h : a = [] ∨ b = []) : mulC p a b = [] := by
  rw [← cn_mul hp (m := []) (a := a) (b := b) fun B => by rcases h with h | h <;> subst h <;> simp]
  rfl
theorem ap_product {p : Int} {a b : List Int} (hp : 0 < p) (ha : Bd a) (hb : Bd b) (la : a.length ≤ 100000) (lb : b.length ≤ 100000) : Ap f_product [.int p, .tup (IL a), .tup (IL b)] (.tup (IL (mulC p a b))) := by
  have hc : cap = 10000000 := rfl
  refine ap_fn ?_
  show (m_product [.fz (.int p), .fz (.tup (IL a)), .fz (.tup (IL b)), .no, .no, .no, .no, .no]).sat _
  by_cases he : a = [] ∨ b = []
  · rw [mulC_nil hp he]
    refine s_seqr (s_ifS (s_or (s_notT (s_truV rfl ⟨_, rfl, fun h => ?_, fun h => ?_⟩))))
    · refine ⟨fun _ => s_last (s_ret (s_tup (s_nil ⟨rfl, Nat.zero_le _⟩))), fun z => (Bool.false_ne_true z.symm).elim⟩
    · refine s_notT (s_truV rfl ⟨_, rfl, fun h2 => s_last (s_ret (s_tup (s_nil ⟨rfl, Nat.zero_le _⟩))), fun h2 => ?_⟩)
      rcases he with e | e
      · subst e; cases h
      · subst e; cases h2
  have ha0 : a ≠ [] := fun e => he (.inl e)
  have hb0 : b ≠ [] := fun e => he (.inr e)
  have na : (!(!(IL a).isEmpty)) = false := by cases a <;> simp_all [IL]
  have nb : (!(!(IL b).isEmpty)) = false := by cases b <;> simp_all [IL]
  refine s_seq (s_ifS (s_or (s_notT (s_truV rfl ⟨_, rfl, fun h => ?_, fun h => ?_⟩))))
  · rw [na] at h; cases h
  refine s_notT (s_truV rfl ⟨_, rfl, fun h2 => ?_, fun h2 => s_nx ⟨rfl, ?_⟩⟩)
  · rw [nb] at h2; cases h2
  refine s_seq (s_asgL (s_binL (s_fz (s_lst (s_cons (s_C (s_nil ⟨?_, by decide⟩)))))))
  refine s_bin (s_bin (s_len rfl (o_lenT (s_len rfl (o_lenT (o_add (s_C (o_sub ?_))))))))
  have l0 : 0 < a.length := List.length_pos_iff.mpr ha0
  have l1 : 0 < b.length := List.length_pos_iff.mpr hb0
  have hk : ((((IL a).length : Int) + ((IL b).length : Int) - 1)).toNat = a.length + b.length - 1 := by rw [IL_len, IL_len]; omega
  refine ⟨IL (List.replicate (a.length + b.length - 1) 0), ?_, rfl, rfl, ?_⟩
  · unfold dRep
    simp only
    rw [if_pos ⟨by rw [IL_len, IL_len]; omega, by rw [IL_len, IL_len]; omega, by rw [hk, List.length_singleton]; omega⟩, hk, rep_IL]
  refine s_seq (s_for (fun ds i S => ∃ (m : List Int) (x4 x5 x6 x7 : SV), ds = enumD 0 (IL a) ∧ i ≤ a.length ∧ S = [.fz (.int p), .fz (.tup (IL a)), .fz (.tup (IL b)), .ow (IL m), x4, x5, x6, x7] ∧ m.length = a.length + b.length - 1 ∧ ∀ B, idx B m = idx B (a.take i) * idx B b) ?_)
  refine s_enum (s_var rfl ⟨IL a, .inr rfl, ⟨_, .no, .no, .no, .no, rfl, Nat.zero_le _, rfl, by simp, fun B => by rw [idx_zeros]; simp⟩, fun i d S hi hP => ?_, fun S hP => ⟨rfl, ?_⟩⟩)
  · obtain ⟨m, x4, x5, x6, x7, _, hia, rfl, hm, hB⟩ := hP
    obtain ⟨hI, rfl⟩ := enum_IL hi
    refine ⟨_, rfl, ?_⟩
    refine s_last (s_for (fun ds j S => ∃ (m : List Int) (x6 x7 : SV), ds = enumD 0 (IL b) ∧ j ≤ b.length ∧ S = [.fz (.int p), .fz (.tup (IL a)), .fz (.tup (IL b)), .ow (IL m), .fz (.int i), .fz (.int a[i]), x6, x7] ∧ m.length = a.length + b.length - 1 ∧ ∀ B, idx B m = idx B (a.take i) * idx B b + a[i] * B ^ i * idx B (b.take j)) ?_)
    refine s_enum (s_var rfl ⟨IL b, .inr rfl, ⟨m, x6, x7, rfl, Nat.zero_le _, rfl, hm, fun B => by rw [hB]; simp⟩, fun j d S hj hP => ?_, fun S hP => ?_⟩)
    · obtain ⟨m, x6, x7, _, hjb, rfl, hm, hB⟩ := hP
      obtain ⟨hJ, rfl⟩ := enum_IL hj
      refine ⟨_, rfl, ?_⟩
      refine s_last (s_augI rfl (s_bin (s_var rfl (s_var rfl (o_add ⟨rfl, i + j, by simp, by omega, ?_⟩)))))
      have h1 := ha a[i] (List.getElem_mem hI)
      have h2 := hb b[j] (List.getElem_mem hJ)
      refine s_bin (s_var rfl (s_var rfl (o_mul (mul64 h1 h2) ⟨rfl, _, rfl, ?_⟩)))
      refine ⟨_, _, _, rfl, hJ, rfl, by simp [hm], fun B => ?_⟩
      rw [idx_set, hB, idx_take B hJ, Int.pow_add]
      grind
    · obtain ⟨m, x6, x7, _, hjb, rfl, hm, hB⟩ := hP
      refine ⟨m, _, _, x6, x7, rfl, hI, rfl, hm, fun B => ?_⟩
      rw [hB, enumD_length, IL_len, List.take_length, idx_take B hI]
      grind
  · obtain ⟨m, x4, x5, x6, x7, _, hia, rfl, hm, hB⟩ := hP
    refine s_last (s_ret (s_ap (s_cons (s_var rfl (s_cons (s_varO rfl (s_nil ⟨_, ap_trimmed (.inl rfl) hp (by omega), ?_⟩)))))))
    rw [← cn_mul hp (m := m) (a := a) (b := b) fun B => by rw [hB, enumD_length, IL_len, List.take_length]]
    rfl
end Lib


set_option Elab.async false
set_option linter.all false
set_option maxRecDepth 100000
set_option maxHeartbeats 4000000
/-! Part S3: the laws' own sums and products, powers, slopes, values. -/
namespace Lib
open PySem PySem.Spec PyProof.Rows L2 Evl Q4

theorem addL_len : ∀ a b : List Int, (addL a b).length = max a.length b.length
  | [], b => by simp [addL]
  | x :: a, [] => by simp [addL]
  | x :: a, y :: b => by simp [addL, addL_len a b]
theorem mulL_len : ∀ a b : List Int, (mulL a b).length ≤ a.length + b.length
  | [], b => by simp [mulL]
  | x :: a, b => by
    have := mulL_len a b
    simp [mulL, addL_len]
    omega
theorem mulC_len (p : Int) (a b : List Int) : (mulC p a b).length ≤ a.length + b.length := Nat.le_trans (cn_len p _) (mulL_len a b)
theorem addC_len (p : Int) (a b : List Int) (x : Int) : (addC p a b x).length ≤ max a.length b.length := by
  refine Nat.le_trans (cn_len p _) ?_
  rw [addL_len, List.length_map]
  exact Nat.le_refl _
theorem mulC_dig {p : Int} (hp : 0 < p) (a b : List Int) : Dig p (mulC p a b) := cn_dig hp _
theorem addC_dig {p : Int} (hp : 0 < p) (a b : List Int) (x : Int) : Dig p (addC p a b x) := cn_dig hp _
theorem mulC_nz (p : Int) (a b : List Int) : NZ (mulC p a b) := cn_nz p _
theorem addC_nz (p : Int) (a b : List Int) (x : Int) : NZ (addC p a b x) := cn_nz p _
/-! ### powers -/
def powL (a : List Int) : Nat → List Int
  | 0 => [1]
  | n + 1 => mulL (powL a n) a
theorem idx_powL (B : Int) (a : List Int) : ∀ n, idx B (powL a n) = idx B a ^ n
  | 0 => by simp [powL]
  | n + 1 => by rw [powL, idx_mulL, idx_powL B a n, Int.pow_succ]
def powC (p : Int) (a : List Int) (n : Nat) : List Int := cn p (powL a n)
theorem powC_md (p : Int) (a : List Int) (n : Nat) : Md p (fun B => idx B (powC p a n)) (fun B => idx B a ^ n) := (cn_md p _).trans (Md.of_eq fun B => idx_powL B a n)
theorem powC_dig {p : Int} (hp : 0 < p) (a : List Int) (n : Nat) : Dig p (powC p a n) := cn_dig hp _
theorem powC_nz (p : Int) (a : List Int) (n : Nat) : NZ (powC p a n) := cn_nz p _
theorem powC_zero {p : Int} (hp : 2 ≤ p) (a : List Int) : powC p a 0 = [1] := by
  show cn p [1] = [1]
  exact cn_self (fun x hx => by have : x = 1 := by simpa using hx
                                omega) (show (1 : Int) ≠ 0 by decide)
theorem powC_succ {p : Int} (hp : 0 < p) (a : List Int) (n : Nat) : powC p a (n + 1) = mulC p (powC p a n) a := by
  refine cn_eq hp ?_
  have h1 : Md p (fun B => idx B (powL a (n + 1))) (fun B => idx B a ^ n * idx B a) := Md.of_eq fun B => by rw [idx_powL, Int.pow_succ]
  refine h1.trans (Md.trans ?_ (Md.of_eq fun B => (idx_mulL B _ _).symm))
  exact ((powC_md p a n).mul (Md.refl _) ((Ev.idx a).pow n) (Ev.idx a)).symm
theorem pow_uniq {p : Int} (hp : 0 < p) {f a : List Int} {n : Nat} (h1 : Dig p f) (h2 : NZ f) (h : Md p (fun B => idx B f) (fun B => idx B a ^ n)) : f = powC p a n :=
  cn_uniq hp h1 h2 (powC_dig hp a n) (powC_nz p a n) (h.trans (powC_md p a n).symm)
theorem half_pow (x : Int) (e : Nat) : x ^ e = (if e % 2 = 1 then x else 1) * (x * x) ^ (e / 2) := by
  have h : x * x = x ^ 2 := by rw [Int.pow_succ, Int.pow_succ]; simp
  rw [h, ← Int.pow_mul]
  by_cases c : e % 2 = 1
  · rw [if_pos c]
    have : e = 2 * (e / 2) + 1 := by omega
    conv => lhs; rw [this, Int.pow_succ]
    grind
  · rw [if_neg c]
    have : e = 2 * (e / 2) := by omega
    conv => lhs; rw [this]
    simp
theorem ap_power {p : Int} {a : List Int} {n : Nat} (hp : 2 ≤ p) (hp2 : p ≤ 61) (ha : Bd a) (hl : 1 + n * a.length ≤ 50000) (hn : n < 1000000) (hla : a.length ≤ 50000) : Ap f_power [.int p, .tup (IL a), .int n] (.tup (IL (powC p a n))) := by
  refine ap_fn ?_
  show (m_power [.fz (.int p), .fz (.tup (IL a)), .fz (.int n), .no]).sat _
  refine s_seq (s_asgN (s_tup (s_cons (s_C (s_nil ⟨⟨rfl, rfl, ?_⟩, by decide⟩)))))
  refine s_seq (s_while (fun k S => ∃ f b : List Int, S = [.fz (.int p), .fz (.tup (IL b)), .fz (.int k), .fz (.tup (IL f))] ∧ Dig p f ∧ NZ f ∧ Bd b ∧ f.length + k * b.length ≤ 50000 ∧ k < 1000000 ∧ b.length ≤ 50000 ∧ Md p (fun B => idx B f * idx B b ^ k) (fun B => idx B a ^ n)) (fun k S hP => ?_) n _
    ⟨[1], a, rfl, fun x hx => by have : x = 1 := by simpa using hx
                                 omega, show (1 : Int) ≠ 0 by decide, ha, by simpa using hl, hn, ?_, Md.of_eq fun B => by simp⟩)
  · obtain ⟨f, b, rfl, h1, h2, h3, h4, h5, h6, h7⟩ := hP
    refine s_test (s_bin (s_var rfl (s_C (o_gt ⟨_, rfl, fun c => ?_, fun c => ?_⟩))))
    · have c := of_decide_eq_true c
      have hk : 0 < k := by omega
      -- the number behind the first step
      have hlb : b.length ≤ k * b.length := Nat.le_mul_of_pos_left _ hk
      have hf : f.length ≤ 50000 := by omega
      refine s_seq (sat_mono (Q := fun r S => r = .nx ∧ ∃ g : List Int, S = [.fz (.int p), .fz (.tup (IL b)), .fz (.int k), .fz (.tup (IL g))] ∧ Dig p g ∧ NZ g ∧ g.length ≤ f.length + (k % 2) * b.length ∧ Md p (fun B => idx B g) (fun B => idx B f * (if k % 2 = 1 then idx B b else 1))) ?_ ?_)
      · refine s_ifS (s_test (s_bin (s_bin (s_var rfl (s_C (o_mod (by decide) (s_C (o_eq ⟨_, rfl, fun d => ?_, fun d => ?_⟩))))))))
        · have d' : k % 2 = 1 := by
            have : ((k : Int) % 2 == 1) = true := d
            have := eq_of_beq this
            omega
          refine s_last (s_asgN (s_ap (s_cons (s_var rfl (s_cons (s_var rfl (s_cons (s_var rfl (s_nil ⟨_, ap_product (by omega) (h1.bd hp2) h3 (by omega) (by omega), rfl, rfl, mulC p f b, rfl, mulC_dig (by omega) f b, mulC_nz p f b, ?_, ?_⟩)))))))))
          · have := mulC_len p f b
            rw [d']; omega
          · refine (mulC_md p f b).trans (Md.of_eq fun B => ?_)
            rw [if_pos d']
        · have d' : ¬ k % 2 = 1 := by
            have : ((k : Int) % 2 == 1) = false := d
            have := beq_eq_false_iff_ne.mp this
            omega
          refine s_nx ⟨rfl, f, rfl, h1, h2, by omega, Md.of_eq fun B => ?_⟩
          rw [if_neg d']; simp
      · rintro r S ⟨rfl, g, rfl, g1, g2, g3, g4⟩
        refine ⟨rfl, ?_⟩
        have hkk : k = 2 * (k / 2) + k % 2 := by omega
        have hmul : k * b.length = 2 * (k / 2 * b.length) + k % 2 * b.length := by
          conv => lhs; rw [hkk]
          rw [Nat.add_mul, Nat.mul_assoc]
        refine s_seq (s_aug rfl (s_C ⟨.int ((k : Int) / 2), rfl, rfl, rfl, ?_⟩))
        refine s_last (s_ifS (s_test (s_bin (s_var rfl (s_C (o_gt ⟨_, rfl, fun d => ?_, fun d => ?_⟩))))))
        · have d := of_decide_eq_true d
          refine s_last (s_asgN (s_ap (s_cons (s_var rfl (s_cons (s_var rfl (s_cons (s_var rfl (s_nil ⟨_, ap_product (by omega) h3 h3 (by omega) (by omega), rfl, ?_⟩)))))))))
          have hb2 := mulC_len p b b
          have hkb : k / 2 * (mulC p b b).length ≤ 2 * (k / 2 * b.length) := by
            have := Nat.mul_le_mul_left (k / 2) hb2
            rw [Nat.mul_add] at this
            omega
          have hk2 : 0 < k / 2 := by omega
          have hb3 : (mulC p b b).length ≤ k / 2 * (mulC p b b).length := Nat.le_mul_of_pos_left _ hk2
          refine ⟨k / 2, by omega, g, mulC p b b, rfl, g1, g2, (mulC_dig (by omega) b b).bd hp2, by omega, by omega, by omega, ?_⟩
          have e1 : Md p (fun B => idx B g * idx B (mulC p b b) ^ (k / 2)) (fun B => (idx B f * (if k % 2 = 1 then idx B b else 1)) * (idx B b * idx B b) ^ (k / 2)) := by
            refine g4.mul ((mulC_md p b b).pow (Ev.idx _) ((Ev.idx b).mul (Ev.idx b)) _) ?_ ((Ev.idx _).pow _)
            by_cases z : k % 2 = 1
            · simp only [if_pos z]; exact (Ev.idx f).mul (Ev.idx b)
            · simp only [if_neg z]; exact (Ev.idx f).mul (Ev.const 1)
          refine (e1.trans (Md.of_eq fun B => ?_)).trans h7
          rw [half_pow (idx B b) k, Int.mul_assoc]
        · have d := of_decide_eq_false d
          have k0 : k / 2 = 0 := by omega
          refine s_nx ⟨k / 2, by omega, g, b, rfl, g1, g2, h3, by rw [k0]; omega, by omega, h6, ?_⟩
          refine (Md.of_eq fun B => by rw [k0]; simp).trans (g4.trans ((Md.of_eq fun B => ?_).trans h7))
          rw [half_pow (idx B b) k, k0]
          simp
    · have c := of_decide_eq_false c
      have k0 : k = 0 := by omega
      subst k0
      refine ⟨rfl, s_last (s_retV rfl ?_)⟩
      rw [← pow_uniq (by omega) h1 h2 ((Md.of_eq fun B => by simp).trans h7)]
  · exact hla
end Lib


set_option Elab.async false
set_option linter.all false
set_option maxRecDepth 100000
set_option maxHeartbeats 4000000
/-! Part S4: the laws' own sums and products, slopes, values. -/
namespace Lib
open PySem PySem.Spec PyProof.Rows L2 Evl Q4

theorem rng_get {n i : Nat} {d : D} (h : (rngD 0 1 n)[i]? = some d) : i < n ∧ d = .int i := by
  unfold rngD at h
  rw [List.getElem?_map] at h
  obtain ⟨k, hk, rfl⟩ := Option.map_eq_some_iff.mp h
  have h2 := (List.getElem?_eq_some_iff.mp hk)
  obtain ⟨h3, h4⟩ := h2
  rw [List.getElem_range] at h4
  rw [List.length_range] at h3
  subst h4
  exact ⟨h3, by simp⟩
theorem rng_mem {n : Nat} {d : D} (h : d ∈ rngD 0 1 n) : ∃ i : Nat, i < n ∧ d = .int i := by
  obtain ⟨i, hi⟩ := List.getElem?_of_mem h
  exact ⟨i, rng_get hi⟩
theorem rng_len (n : Nat) : (rngD 0 1 n).length = n := by simp [rngD]
theorem ap_law_add {p x : Int} {a b : List Int} (hp : 0 < p) (hx : x.natAbs < 18446744073709551616) (hb : Bd b) (la : a.length ≤ 100000) (lb : b.length ≤ 100000) : Ap f_law_add [.int p, .tup (IL a), .tup (IL b), .int x] (.tup (IL (addC p a b x))) := by
  have hc : cap = 10000000 := rfl
  refine ap_fn ?_
  show (m_law_add [.fz (.int p), .fz (.tup (IL a)), .fz (.tup (IL b)), .fz (.int x), .no, .no, .no, .no]).sat _
  obtain ⟨n, hn, hna, hnb, hnl⟩ : ∃ n : Nat, (if ((IL b).length : Int) > ((IL a).length : Int) then ((IL b).length : Int) else ((IL a).length : Int)) = n ∧ a.length ≤ n ∧ b.length ≤ n ∧ n ≤ 100000 := by
    rw [IL_len, IL_len]
    by_cases h : b.length > a.length
    · exact ⟨b.length, by rw [if_pos (by omega)], by omega, by omega, lb⟩
    · exact ⟨a.length, by rw [if_neg (by omega)], by omega, by omega, la⟩
  refine s_seq (s_asgN (s_call (s_cons (s_len rfl (o_lenT (s_cons (s_len rfl (o_lenT (s_nil ⟨.int n, by rw [← hn]; rfl, rfl, rfl, ?_⟩)))))))))
  refine s_seq (s_asgN (s_bin (s_fz (s_callL (s_cons (s_var rfl (s_nil ⟨IL a, rfl, ?_⟩)))))))
  refine s_bin (s_fz (s_lst (s_cons (s_C (s_nil ⟨s_bin (s_var rfl (s_len rfl (o_lenT (o_sub ?_)))), by decide⟩)))))
  refine o_repL (by rw [IL_len]; omega) (by rw [IL_len]; omega) (by rw [List.length_singleton, IL_len]; omega) ?_
  rw [show ((n : Int) - ((IL a).length : Int)).toNat = n - a.length by rw [IL_len]; omega, rep_IL]
  refine o_catL (by rw [IL_len, IL_len, List.length_replicate]; omega) ⟨rfl, rfl, ?_⟩
  refine s_seq (s_asgN (s_bin (s_fz (s_callL (s_cons (s_var rfl (s_nil ⟨IL b, rfl, ?_⟩)))))))
  refine s_bin (s_fz (s_lst (s_cons (s_C (s_nil ⟨s_bin (s_var rfl (s_len rfl (o_lenT (o_sub ?_)))), by decide⟩)))))
  refine o_repL (by rw [IL_len]; omega) (by rw [IL_len]; omega) (by rw [List.length_singleton, IL_len]; omega) ?_
  rw [show ((n : Int) - ((IL b).length : Int)).toNat = n - b.length by rw [IL_len]; omega, rep_IL]
  refine o_catL (by rw [IL_len, IL_len, List.length_replicate]; omega) ⟨rfl, rfl, ?_⟩
  rw [show IL a ++ IL (List.replicate (n - a.length) 0) = IL (a ++ List.replicate (n - a.length) 0) by simp [IL], show IL b ++ IL (List.replicate (n - b.length) 0) = IL (b ++ List.replicate (n - b.length) 0) by simp [IL]]
  generalize hL : a ++ List.replicate (n - a.length) 0 = L
  generalize hR : b ++ List.replicate (n - b.length) 0 = R
  have lL : L.length = n := by rw [← hL]; simp; omega
  have lR : R.length = n := by rw [← hR]; simp; omega
  have hRb : Bd R := fun v hv => by
    rw [← hR] at hv
    rcases List.mem_append.mp hv with h | h
    · exact hb v h
    · rw [(List.mem_replicate.mp h).2]; decide
  refine s_last (s_ret (s_ap (s_cons (s_var rfl (s_cons (s_fz (s_map (fun d => match d with | .int k => .int (L.getD k.toNat 0 + x * R.getD k.toNat 0) | d => d) ?_)))))))
  refine s_rng1 (s_cons (s_var rfl (s_nil ⟨n, rfl, by omega, rfl, by rw [rng_len]; omega, fun d hd => ?_, ?_⟩)))
  · obtain ⟨i, hi, rfl⟩ := rng_mem hd
    have h1 : i < L.length := by omega
    have h2 : i < R.length := by omega
    have hv := hRb R[i] (List.getElem_mem h2)
    refine ⟨_, rfl, s_yes ⟨rfl, ?_⟩⟩
    refine s_bin (s_ixV rfl (s_var rfl ⟨.int L[i], at_IL h1, ?_⟩))
    refine s_bin (s_var rfl (s_ixV rfl (s_var rfl ⟨.int R[i], at_IL h2, o_mul (mul64 hx hv) (o_add ⟨?_, rfl⟩)⟩)))
    simp [List.getD_eq_getElem?_getD, List.getElem?_eq_getElem h1, List.getElem?_eq_getElem h2]
  have e3 : (rngD 0 1 n).map (fun d => match d with | .int k => .int (L.getD k.toNat 0 + x * R.getD k.toNat 0) | d => d) = IL (List.zipWith (fun u v => u + x * v) L R) := by
    refine List.ext_getElem? fun i => ?_
    rw [List.getElem?_map]
    by_cases h : i < n
    · have h1 : i < L.length := by omega
      have h2 : i < R.length := by omega
      have : (rngD 0 1 n)[i]? = some (.int i) := by
        unfold rngD
        rw [List.getElem?_map, List.getElem?_range h]
        simp
      rw [this]
      simp only [IL, List.getElem?_map, List.getElem?_zipWith, List.getElem?_eq_getElem h1, List.getElem?_eq_getElem h2]
      simp [List.getD_eq_getElem?_getD, List.getElem?_eq_getElem h1, List.getElem?_eq_getElem h2]
    · rw [List.getElem?_eq_none (by rw [rng_len]; omega), List.getElem?_eq_none (by rw [IL_len, List.length_zipWith]; omega)]
      rfl
  rw [e3]
  refine s_nil ⟨_, ap_law_trim (.inl rfl) hp (by rw [List.length_zipWith]; omega), ?_⟩
  have e4 := cn_add hp (m := List.zipWith (fun u v => u + x * v) L R) (a := a) (b := b) (x := x) fun B => by
    rw [idx_zipW B x _ _ (by omega), ← hL, ← hR, idx_pad, idx_pad]
  rw [← e4]
  rfl
theorem ap_law_mul {p : Int} {a b : List Int} (hp : 0 < p) (ha : Bd a) (hb : Bd b) (la : a.length ≤ 100000) (lb : b.length ≤ 100000) : Ap f_law_mul [.int p, .tup (IL a), .tup (IL b)] (.tup (IL (mulC p a b))) := by
  have hc : cap = 10000000 := rfl
  refine ap_fn ?_
  show (m_law_mul [.fz (.int p), .fz (.tup (IL a)), .fz (.tup (IL b)), .no, .no, .no]).sat _
  obtain ⟨n, hn, hna, hnl⟩ : ∃ n : Nat, (if ((IL a).length : Int) + ((IL b).length : Int) - 1 > 0 then ((IL a).length : Int) + ((IL b).length : Int) - 1 else 0) = n ∧ a.length + b.length ≤ n + 1 ∧ n ≤ 200000 := by
    rw [IL_len, IL_len]
    by_cases h : (a.length : Int) + b.length - 1 > 0
    · exact ⟨a.length + b.length - 1, by rw [if_pos h]; omega, by omega, by omega⟩
    · exact ⟨0, by rw [if_neg h]; rfl, by omega, by omega⟩
  refine s_seq (s_asgL (s_binL (s_fz (s_lst (s_cons (s_C (s_nil ⟨?_, by decide⟩)))))))
  refine s_call (s_cons (s_C (s_cons (s_bin (s_bin (s_len rfl (o_lenT (s_len rfl (o_lenT (o_add (s_C (o_sub (s_nil ⟨.int n, by rw [← hn]; rfl, ?_⟩)))))))))))))
  refine ⟨IL (List.replicate n 0), ?_, rfl, rfl, ?_⟩
  · unfold dRep
    simp only
    rw [if_pos ⟨by omega, by omega, by rw [Int.toNat_natCast, List.length_singleton]; omega⟩, Int.toNat_natCast, rep_IL]
  refine s_seq (s_for (fun ds i S => ∃ (m : List Int) (x4 x5 : SV), ds = rngD 0 1 a.length ∧ i ≤ a.length ∧ S = [.fz (.int p), .fz (.tup (IL a)), .fz (.tup (IL b)), .ow (IL m), x4, x5] ∧ m.length = n ∧ ∀ B, idx B m = idx B (a.take i) * idx B b) ?_)
  refine s_rng1 (s_cons (s_len rfl (o_lenT (s_nil ⟨a.length, by rw [IL_len], by omega, ⟨_, .no, .no, rfl, Nat.zero_le _, rfl, by simp, fun B => by rw [idx_zeros]; simp⟩, fun i d S hi hP => ?_, fun S hP => ⟨rfl, ?_⟩⟩))))
  · obtain ⟨m, x4, x5, _, hia, rfl, hm, hB⟩ := hP
    obtain ⟨hI, rfl⟩ := rng_get hi
    refine ⟨_, rfl, ?_⟩
    refine s_last (s_for (fun ds j S => ∃ (m : List Int) (x5 : SV), ds = rngD 0 1 b.length ∧ j ≤ b.length ∧ S = [.fz (.int p), .fz (.tup (IL a)), .fz (.tup (IL b)), .ow (IL m), .fz (.int i), x5] ∧ m.length = n ∧ ∀ B, idx B m = idx B (a.take i) * idx B b + a[i] * B ^ i * idx B (b.take j)) ?_)
    refine s_rng1 (s_cons (s_len rfl (o_lenT (s_nil ⟨b.length, by rw [IL_len], by omega, ⟨m, x5, rfl, Nat.zero_le _, rfl, hm, fun B => by rw [hB]; simp⟩, fun j d S hj hP => ?_, fun S hP => ?_⟩))))
    · obtain ⟨m, x5, _, hjb, rfl, hm, hB⟩ := hP
      obtain ⟨hJ, rfl⟩ := rng_get hj
      refine ⟨_, rfl, ?_⟩
      have h1 := ha a[i] (List.getElem_mem hI)
      have h2 := hb b[j] (List.getElem_mem hJ)
      have hij : i + j < m.length := by omega
      refine s_last (s_setI rfl (s_bin (s_ixO rfl (s_bin (s_var rfl (s_var rfl (o_add ⟨rfl, .int m[i + j], ?_, ?_⟩)))))))
      · exact at_IL hij
      refine s_bin (s_ixV rfl (s_var rfl ⟨.int a[i], at_IL hI, ?_⟩))
      refine s_ixV rfl (s_var rfl ⟨.int b[j], at_IL hJ, o_mul (mul64 h1 h2) (o_add ⟨rfl, _, rfl, ?_⟩)⟩)
      refine s_bin (s_var rfl (s_var rfl (o_add ⟨rfl, i + j, by simp, hij, ?_⟩)))
      refine ⟨_, _, rfl, hJ, rfl, by simp [hm], fun B => ?_⟩
      rw [idx_set, hB, idx_take B hJ, Int.pow_add]
      grind
    · obtain ⟨m, x5, _, hjb, rfl, hm, hB⟩ := hP
      refine ⟨m, _, x5, rfl, hI, rfl, hm, fun B => ?_⟩
      rw [hB, rng_len, List.take_length, idx_take B hI]
      grind
  · obtain ⟨m, x4, x5, _, hia, rfl, hm, hB⟩ := hP
    refine s_last (s_ret (s_ap (s_cons (s_var rfl (s_cons (s_varO rfl (s_nil ⟨_, ap_law_trim (.inl rfl) hp (by omega), ?_⟩)))))))
    rw [← cn_mul hp (m := m) (a := a) (b := b) fun B => by rw [hB, rng_len, List.take_length]]
    rfl
end Lib


set_option Elab.async false
set_option linter.all false
set_option maxRecDepth 100000
set_option maxHeartbeats 4000000
/-! Part S5: slopes, values, one polynomial put in another. -/
namespace Lib
open PySem PySem.Spec PyProof.Rows L2 Evl Q4

def derL (a : List Int) : List Int := (List.range (a.length - 1)).map fun (k : Nat) => ((k + 1 : Nat) : Int) * a.getD (k + 1) 0
theorem ap_slope {p : Int} {a : List Int} (hp : 0 < p) (ha : Bd a) (la : a.length ≤ 100000) : Ap f_slope [.int p, .tup (IL a)] (.tup (IL (cn p (derL a)))) := by
  have hc : cap = 10000000 := rfl
  refine ap_fn ?_
  show (m_slope [.fz (.int p), .fz (.tup (IL a)), .no, .no]).sat _
  refine s_last (s_ret (s_ap (s_cons (s_var rfl (s_cons (s_slX (s_fz (s_map (fun d => match d with | .tup [.int u, .int v] => .int (u * v) | d => d) ?_)))))))) 
  refine s_enum (s_var rfl ⟨IL a, .inr rfl, rfl, by rw [enumD_length, IL_len]; omega, fun d hd => ?_, ?_⟩)
  · obtain ⟨i, hi⟩ := List.getElem?_of_mem hd
    obtain ⟨hI, rfl⟩ := enum_IL hi
    have h1 := ha a[i] (List.getElem_mem hI)
    refine ⟨_, rfl, s_yes ⟨rfl, s_bin (s_var rfl (s_var rfl (o_mul (mul64 (by omega) h1) ⟨rfl, rfl⟩)))⟩⟩
  have e1 : (enumD 0 (IL a)).map (fun d => match d with | .tup [.int u, .int v] => .int (u * v) | d => d) = IL ((List.range a.length).map fun (k : Nat) => (k : Int) * a.getD k 0) := by
    refine List.ext_getElem? fun i => ?_
    rw [List.getElem?_map]
    by_cases h : i < a.length
    · rw [enumD_get, Nat.zero_add, IL_get h]
      simp only [IL, List.getElem?_map, List.getElem?_range h]
      simp [List.getD_eq_getElem?_getD, List.getElem?_eq_getElem h]
    · rw [List.getElem?_eq_none (by rw [enumD_length, IL_len]; omega), List.getElem?_eq_none (by rw [IL_len]; simp; omega)]
      rfl
  rw [e1]
  have e2 : Q4.cutD (IL ((List.range a.length).map fun (k : Nat) => (k : Int) * a.getD k 0)) (some 1) none = IL (derL a) := by
    unfold Q4.cutD
    rw [show HT.sIx (IL ((List.range a.length).map fun (k : Nat) => (k : Int) * a.getD k 0)).length 0 (some 1) = min 1 a.length by
      rw [IL_len, List.length_map, List.length_range]
      exact HT.sIx_nat a.length 0 1, HT.sIx_none, List.take_of_length_le (by rw [List.length_drop]; exact Nat.le_refl _)]
    refine List.ext_getElem? fun i => ?_
    rw [List.getElem?_drop]
    by_cases h : i < a.length - 1
    · have e : min 1 a.length + i = i + 1 := by omega
      rw [e]
      simp only [IL, derL, List.getElem?_map, List.getElem?_range h, List.getElem?_range (show i + 1 < a.length by omega)]
      rfl
    · rw [List.getElem?_eq_none (by rw [IL_len, List.length_map, List.length_range]; omega), List.getElem?_eq_none (by rw [IL_len]; simp [derL]; omega)]
  refine s_part (s_C ⟨1, rfl, s_noPart ?_⟩)
  simp only
  rw [e2]
  refine s_nil ⟨_, ap_trimmed (.inl rfl) hp (by simp [derL]; omega), rfl⟩
/-- over the list turned round -/
theorem drop_rev {a : List Int} {i : Nat} (h : i < a.length) : a.drop (a.length - (i + 1)) = a[a.length - 1 - i] :: a.drop (a.length - i) := by
  rw [show a.length - (i + 1) = a.length - 1 - i by omega, List.drop_eq_getElem_cons (by omega), show a.length - 1 - i + 1 = a.length - i by omega]
theorem rev_IL {a : List Int} {i : Nat} {d : D} (h : (IL a).reverse[i]? = some d) : ∃ hi : i < a.length, d = .int a[a.length - 1 - i] := by
  have hi : i < a.length := by have := (List.getElem?_eq_some_iff.mp h).1; simpa [IL] using this
  refine ⟨hi, ?_⟩
  rw [List.getElem?_reverse (by rw [IL_len]; exact hi), IL_len, IL_get (by omega)] at h
  exact (Option.some.inj h).symm
theorem emod_step (A x c p : Int) : (A % p * x + c) % p = (A * x + c) % p := by
  rw [Int.add_emod, Int.mul_emod, Int.emod_emod, ← Int.mul_emod, ← Int.add_emod]
theorem ap_value_at {p x : Int} {a : List Int} (hp : 0 < p) (hp2 : p ≤ 61) (hx : x.natAbs < 18446744073709551616) (la : a.length ≤ 100000) : Ap f_value_at [.int p, .tup (IL a), .int x] (.int (idx x a % p)) := by
  have hc : cap = 10000000 := rfl
  refine ap_fn ?_
  show (m_value_at [.fz (.int p), .fz (.tup (IL a)), .fz (.int x), .no, .no]).sat _
  refine s_seq (s_asgN (s_C ⟨rfl, rfl, ?_⟩))
  refine s_seq (s_for (fun ds i S => ∃ x4, i ≤ a.length ∧ S = [.fz (.int p), .fz (.tup (IL a)), .fz (.int x), .fz (.int (idx x (a.drop (a.length - i)) % p)), x4]) ?_)
  refine s_items (s_rev (s_var rfl ⟨_, rfl, by rw [IL_len]; omega, (IL a).reverse, .inr (.inl rfl), ⟨.no, Nat.zero_le _, by simp⟩, fun i d S hi hP => ?_, fun S hP => ⟨rfl, ?_⟩⟩))
  · obtain ⟨x4, hi2, rfl⟩ := hP
    obtain ⟨hI, rfl⟩ := rev_IL hi
    refine ⟨_, rfl, ?_⟩
    have g1 := Int.emod_nonneg (idx x (a.drop (a.length - i))) (b := p) (by omega)
    have g2 := Int.emod_lt_of_pos (idx x (a.drop (a.length - i))) (b := p) (by omega)
    refine s_last (s_asgN (s_bin (s_bin (s_bin (s_var rfl (s_var rfl (o_mul (mul64 (by omega) hx) (s_var rfl (o_add (s_var rfl (o_mod hp ⟨rfl, ?_⟩)))))))))))
    refine ⟨.fz (.int a[a.length - 1 - i]), hI, ?_⟩
    rw [drop_rev hI, idx_cons, ← emod_step (idx x (a.drop (a.length - i)))]
    rfl
  · obtain ⟨x4, _, rfl⟩ := hP
    refine s_last (s_retV rfl ?_)
    rw [List.length_reverse, IL_len, Nat.sub_self, List.drop_zero]
def putC (p : Int) (b : List Int) : List Int → List Int
  | [] => []
  | x :: r => addC p (mulC p (putC p b r) b) (cn p [x]) 1
theorem putC_dig {p : Int} (hp : 0 < p) (b : List Int) : ∀ a, Dig p (putC p b a)
  | [] => fun x hx => (List.not_mem_nil hx).elim
  | x :: r => addC_dig hp _ _ _
theorem putC_len (p : Int) (b : List Int) : ∀ a : List Int, (putC p b a).length ≤ a.length * (b.length + 1)
  | [] => Nat.zero_le _
  | x :: r => by
    have h1 := putC_len p b r
    have h2 := addC_len p (mulC p (putC p b r) b) (cn p [x]) 1
    have h3 := mulC_len p (putC p b r) b
    have h4 := cn_len p [x]
    simp only [List.length_cons, List.length_nil] at h4
    show (addC p (mulC p (putC p b r) b) (cn p [x]) 1).length ≤ (r.length + 1) * (b.length + 1)
    rw [Nat.add_mul]
    omega
theorem ap_put_in {p : Int} {a b : List Int} (hp : 0 < p) (hp2 : p ≤ 61) (hb : Bd b) (la : a.length ≤ 1000) (lb : b.length ≤ 50) : Ap f_put_in [.int p, .tup (IL a), .tup (IL b)] (.tup (IL (putC p b a))) := by
  have hc : cap = 10000000 := rfl
  refine ap_fn ?_
  show (m_put_in [.fz (.int p), .fz (.tup (IL a)), .fz (.tup (IL b)), .no, .no]).sat _
  refine s_seq (s_asgN (s_tup (s_nil ⟨⟨rfl, rfl, ?_⟩, Nat.zero_le _⟩)))
  refine s_seq (s_for (fun ds i S => ∃ x4, i ≤ a.length ∧ S = [.fz (.int p), .fz (.tup (IL a)), .fz (.tup (IL b)), .fz (.tup (IL (putC p b (a.drop (a.length - i))))), x4]) ?_)
  refine s_items (s_rev (s_var rfl ⟨_, rfl, by rw [IL_len]; omega, (IL a).reverse, .inr (.inl rfl), ⟨.no, Nat.zero_le _, by simp [putC]⟩, fun i d S hi hP => ?_, fun S hP => ⟨rfl, ?_⟩⟩))
  · obtain ⟨x4, hi2, rfl⟩ := hP
    obtain ⟨hI, rfl⟩ := rev_IL hi
    refine ⟨_, rfl, ?_⟩
    have g1 := putC_len p b (a.drop (a.length - i))
    have g2 : (a.drop (a.length - i)).length * (b.length + 1) ≤ 1000 * 51 := Nat.mul_le_mul (by rw [List.length_drop]; omega) (by omega)
    have g3 := putC_dig hp b (a.drop (a.length - i))
    have g4 := mulC_len p (putC p b (a.drop (a.length - i))) b
    have g5 := cn_len p [a[a.length - 1 - i]]
    simp only [List.length_cons, List.length_nil] at g5
    refine s_last (s_asgN (s_ap (s_cons (s_var rfl (s_cons (s_ap (s_cons (s_var rfl (s_cons (s_var rfl (s_cons (s_var rfl (s_nil ⟨_, ap_product hp (g3.bd hp2) hb (by omega) (by omega), ?_⟩)))))))))))))
    refine s_cons (s_ap (s_cons (s_var rfl (s_cons (s_fz (s_lst (s_cons (s_var rfl (s_nil ⟨s_nil ⟨_, ap_trimmed (ns := [a[a.length - 1 - i]]) (.inl rfl) hp (by simp; omega), ?_⟩, Nat.le_of_ble_eq_true rfl⟩)))))))))
    refine s_nil ⟨_, ap_sum_of hp ((cn_dig hp [a[a.length - 1 - i]]).bd hp2) (by omega) (by show (cn p [a[a.length - 1 - i]]).length ≤ _; omega), rfl, ?_⟩
    refine ⟨.fz (.int a[a.length - 1 - i]), hI, ?_⟩
    rw [drop_rev hI]
    rfl
  · obtain ⟨x4, _, rfl⟩ := hP
    refine s_last (s_retV rfl ?_)
    rw [List.length_reverse, IL_len, Nat.sub_self, List.drop_zero]
end Lib


set_option Elab.async false
set_option linter.all false
set_option maxRecDepth 100000
set_option maxHeartbeats 4000000
/-! Part N: a fresh slice; a list is appended and written in its place: x.append(L); for i in ..: x[-1][i] = x[-1][i] op e. -/
namespace Q4
open PySem PySem.Spec PyProof.Rows L2 Evl

/-! ### owned slots out of sight -/
def SV.hid : SV → SV
  | .ow _ => .no
  | s => s
def hid (S : SS) : SS := S.map SV.hid
theorem hid_get (S : SS) (i : Nat) : (hid S)[i]? = (S[i]?).map SV.hid := by unfold hid; rw [List.getElem?_map]
section
variable {K : PySem.W.Frag} {B : Bs} {G H G' H' : Hp} {σ : L2.St} {S : SS}
theorem hid_fz {S : SS} {i : Nat} {d : D} (h : (hid S)[i]? = some (.fz d)) : S[i]? = some (.fz d) := by
  rw [hid_get] at h
  cases q : S[i]? with
  | none => rw [q] at h; cases h
  | some s =>
    rw [q] at h
    cases s with
    | fz e => exact h
    | _ => cases h
theorem hid_now {S : SS} {i : Nat} {ds : List D} (h : (hid S)[i]? = some (.ow ds)) : False := by
  rw [hid_get] at h
  cases q : S[i]? with
  | none => rw [q] at h; cases h
  | some s =>
    rw [q] at h
    cases s with
    | _ => cases h
theorem Rel.hid (R : Rel K B G H σ S) : Rel K ⟨G, H, []⟩ G H σ (Q4.hid S) := by
  refine ⟨R.gh, Ex.refl _, fun a h => .inl h, fun a o h _ => h, by unfold Q4.hid; rw [List.length_map]; exact R.ln, fun i s h => ?_, fun i j xs ys _ h _ => (hid_now h).elim, fun m hm => (by cases hm), fun m hm => (by cases hm)⟩
  cases s with
  | no => trivial
  | fz d => exact R.sl i (.fz d) (hid_fz h)
  | ow ds => exact (hid_now h).elim
theorem Rel.back (R : Rel K B G H σ S) (eg : Ex G G') (R' : Rel K ⟨G, H, []⟩ G' H' σ (Q4.hid S)) :
    Rel K B G' H' σ S ∧ Ex H H' ∧ ∀ a, G' a ≠ none → G a ≠ none ∨ H a = none := by
  have eh : Ex H H' := fun a o h => R'.kp a o h fun m hm => by cases hm
  have nw : ∀ a, G' a ≠ none → G a ≠ none ∨ H a = none := fun a h => by
    rcases R'.fr a h with q | q | ⟨m, hm, _⟩
    · exact .inl q
    · exact .inr q
    · cases hm
  refine ⟨⟨R'.gh, R.gg.trans eg, fun a h => ?_, fun a o h hm => eh _ _ (R.kp a o h hm), R.ln, fun i s h => ?_, R.ds, R.mm, fun m hm => ?_⟩, eh, nw⟩
  · rcases nw a h with q | q
    · exact R.fr a q
    · exact .inr (.inl (R.noB q))
  · cases s with
    | no => trivial
    | fz d =>
      obtain ⟨v, h1, h2⟩ := R.sl i _ h
      exact ⟨v, h1, h2.mono eg⟩
    | ow ds =>
      obtain ⟨l, vs, h1, h2, h3, h4, h5⟩ := R.sl i _ h
      refine ⟨l, vs, h1, eh _ _ h2, h3.mono eg, ?_, h5⟩
      cases q : G' l with
      | none => rfl
      | some o =>
        rcases nw l (by rw [q]; exact fun z => nomatch z) with z | z
        · exact absurd h4 z
        · rw [h2] at z; cases z
  · obtain ⟨o, ho⟩ := R.mh m hm
    exact ⟨o, eh _ _ ho⟩
/-- a loose object is written -/
theorem Rel.wrL {p : Addr} {o : HO} (R : Rel K B G H σ S) (gp : G p = none) (bp : B.H p = none) (hp : H p ≠ none) (ns : ∀ (i : Nat) (xs : List D), S[i]? = some (SV.ow xs) → σ[i]? ≠ some (some (V.ref p))) : Rel K B G (upd H p o) σ S := by
  refine ⟨R.gh.mut gp, R.gg, R.fr, fun a u h hm => ?_, R.ln, fun i s h => ?_, R.ds, R.mm, fun m hm => ?_⟩
  · have : a ≠ p := fun e => by rw [e, bp] at h; cases h
    rw [upd_ne this]
    exact R.kp a u h hm
  · cases s with
    | no => trivial
    | fz d => exact R.sl i _ h
    | ow ds =>
      obtain ⟨l, vs, h1, h2, h3, h4, h5⟩ := R.sl i _ h
      have : l ≠ p := fun e => ns i ds h (by rw [h1, e])
      exact ⟨l, vs, h1, by rw [upd_ne this]; exact h2, h3, h4, h5⟩
  · by_cases e : m.2 = p
    · rw [e]; exact ⟨_, upd_same⟩
    · rw [upd_ne e]; exact R.mh m hm
theorem Rel.unown {i : Nat} (R : Rel K B G H σ S) : Rel K B G H σ (S.set i .no) := by
  by_cases hi : i < S.length
  · refine ⟨R.gh, R.gg, R.fr, R.kp, by rw [List.length_set]; exact R.ln, fun j s hj => ?_, fun j k xs ys hjk hj hk => ?_, R.mm, R.mh⟩
    · by_cases ej : j = i
      · subst ej
        rw [List.getElem?_set_self hi] at hj
        cases hj
        trivial
      · rw [List.getElem?_set_ne (Ne.symm ej)] at hj
        exact R.sl j s hj
    · have nj : j ≠ i := fun z => by subst z; rw [List.getElem?_set_self hi] at hj; cases hj
      have nk : k ≠ i := fun z => by subst z; rw [List.getElem?_set_self hi] at hk; cases hk
      rw [List.getElem?_set_ne (Ne.symm nj)] at hj
      rw [List.getElem?_set_ne (Ne.symm nk)] at hk
      exact R.ds j k xs ys hjk hj hk
  · rw [List.set_eq_of_length_le (by omega)]
    exact R
end
section
variable {X : Cx} {W : WX} {e : Expr} {me : M D} {B : Bs} {G H : Hp} {σ : L2.St} {S : SS} {Q : VK}
/-- an expression that touches no owned slot leaves all that stands -/
theorem frameE {te : TE} (qe : ∀ B G H σ S Q, Rel X.K B G H σ S → PoE X.K X.mg B W σ G (me S) Q → te σ H Q) {d : D} (R : Rel X.K B G H σ S) (hd : me (hid S) = .ok d (hid S))
    (k : ∀ v G' H', Ex G G' → Rel X.K B G' H' σ S → Ex H H' → (∀ a, G' a ≠ none → G a ≠ none ∨ H a = none) → DP X.K G' v d → Q v H') : te σ H Q := by
  refine qe ⟨G, H, []⟩ G H σ (hid S) Q R.hid ?_
  rw [hd]
  intro v G' H' eg R' dv
  obtain ⟨R2, eh, nw⟩ := R.back eg R'
  exact k v G' H' eg R2 eh nw dv
end

/-! ### the loop of stores -/
open Classical in
noncomputable def nestLoop (i : Nat) (f : D → D → Option D) (mx : M D) : List D → List D → SS → Option (List D × SS)
  | [], xs, S => some (xs, S)
  | .int z :: its, xs, S => match atI xs z, ixN xs.length z, mx (hid (S.set i (.fz (.int z)))) with
    | some x, some j, .ok b S2 => if i < S.length ∧ S2 = hid (S.set i (.fz (.int z))) then match f x b with
      | some y => nestLoop i f mx its (xs.set j y) (S.set i (.fz (.int z)))
      | none => none
      else none
    | _, _, _ => none
  | _ :: _, _, _ => none
open Classical in
noncomputable def mNest (k i : Nat) (ml mi : M (List D)) (f : D → D → Option D) (mx : M D) : M Fl := fun S => match S[k]? with
  | some (.ow _) => (ml S).bind fun xs S1 => match S1[k]? with
    | some (.ow ds) => if ds.length < cap then match mi (hid (S1.set k .no)) with
      | .ok its S2 => if S2 = hid (S1.set k .no) then match nestLoop i f mx its xs (S1.set k .no) with
        | some (ys, S3) => .ok .nx (S3.set k (.ow (ds ++ [.lst ys])))
        | none => .bad
        else .bad
      | _ => .bad
      else .bad
    | _ => .bad
  | _ => .bad
theorem ne_none {p : Addr} {H : Hp} {o : HO} (h : H p = some o) : H p ≠ none := by rw [h]; exact fun z => nomatch z
theorem gnone {p : Addr} {G G' H : Hp} {o : HO} (nw : ∀ a, G' a ≠ none → G a ≠ none ∨ H a = none) (h : H p = some o) (g : G p = none) : G' p = none := by
  cases q : G' p with
  | none => rfl
  | some u =>
    rcases nw p (ne_none q) with z | z
    · exact absurd g z
    · rw [h] at z; cases z
theorem atI_last {vs : List V} {v : V} : atI (vs ++ [v]) (-1) = some v := by
  have e : ixN (vs ++ [v]).length (-1) = some vs.length := by
    unfold ixN
    simp
    omega
  unfold atI
  rw [e]
  simp
section
variable {X : Cx} {W : WX} {mp : List Nat} {mx : M D} {f : D → D → Option D} {r : R2} {tn tx : TE} {k i : Nat}
/-- the index -1 -/
abbrev tM1 : TE := tUn (rU fun i => .int (-i)) (tC (.int 1))
theorem tM1_go {σ : L2.St} {H : Hp} {Q : VK} (h : Q (.int (-1)) H) : tM1 σ H Q := ⟨1, rfl, h⟩
/-- one store -/
theorem nest_body (ho : OpD X.K r f) (qx : ∀ B G H σ S Q, Rel X.K B G H σ S → PoE X.K X.mg B W σ G (mx S) Q → tx σ H Q)
    {B : Bs} {G H : Hp} {σ : L2.St} {S : SS} {l p : Addr} {vs ws : List V} {xs : List D} {z : Int} {x b y : D} {j : Nat} {Q : L2.St → Hp → Prop} (R : Rel X.K B G H σ S) (hk : σ[k]? = some (some (.ref l))) (hi : σ[i]? = some (some (.int z)))
    (hl : H l = some (.lst (vs ++ [.ref p]))) (hp : H p = some (.lst ws)) (gl : G l = none) (gp : G p = none) (dw : DPs X.K G ws xs) (bp : B.H p = none) (nlp : l ≠ p)
    (ns : ∀ (i : Nat) (xs : List D), S[i]? = some (SV.ow xs) → σ[i]? ≠ some (some (V.ref p))) (ea : atI xs z = some x) (ej : ixN xs.length z = some j) (eb : mx (hid S) = .ok b (hid S)) (ey : f x b = some y)
    (c : ∀ G' H' ws', Ex G G' → Rel X.K B G' H' σ S → H' l = some (.lst (vs ++ [.ref p])) → H' p = some (.lst ws') → DPs X.K G' ws' (xs.set j y) → G' l = none → G' p = none → Q σ H') :
    (tOp r (tOp (rIx X.K) (tOp (rIx X.K) (tVar k) tM1) (tVar i)) tx) σ H fun v H1 => gSub (tOp (rIx X.K) (tVar k) tM1) (tVar i) rSetL v σ H1 Q := by
  obtain ⟨va, e1, d1⟩ := atI_get dw ea
  refine ⟨_, hk, tM1_go (.inl ⟨l, _, _, _, rfl, rfl, SqL.of hl, atI_last, _, hi, .inl ⟨p, _, _, _, rfl, rfl, SqL.of hp, e1, ?_⟩⟩)⟩
  refine frameE qx R eb fun v G1 H1 eg R1 eh nw dv => ?_
  refine ho va v x b y G1 H1 _ ey (d1.mono eg) dv R1.gh fun nv G2 H2 al dn => ?_
  have R2 := R1.alc al
  have eg2 := al.ex R1.gh
  have hl1 := eh _ _ hl
  have hp1 := eh _ _ hp
  have gl1 := gnone nw hl gl
  have gp1 := gnone nw hp gp
  have al2 : H2 l = some (.lst (vs ++ [.ref p])) ∧ H2 p = some (.lst ws) ∧ G2 l = none ∧ G2 p = none := by
    rcases al with ⟨rfl, rfl⟩ | ⟨q, o, hq, rfl, rfl⟩
    · exact ⟨hl1, hp1, gl1, gp1⟩
    · have n1 := ne_of_none hl1 hq
      have n2 := ne_of_none hp1 hq
      rw [upd_ne n1, upd_ne n2, upd_ne n1, upd_ne n2]
      exact ⟨hl1, hp1, gl1, gp1⟩
  obtain ⟨a1, a2, a3, a4⟩ := al2
  refine ⟨_, hk, tM1_go (.inl ⟨l, _, _, _, rfl, rfl, SqL.of a1, atI_last, _, hi, p, ws, z, j, rfl, rfl, a2, by rw [dw.length]; exact ej, ?_⟩)⟩
  refine c G2 _ _ (eg.trans eg2) (R2.wrL a4 bp (ne_none a2) ns) ?_ upd_same ((dw.mono (eg.trans eg2)).set dn j) a3 a4
  rw [upd_ne nlp]
  exact a1
theorem gs_nest {x y : Str} {eL iter ex : Expr} {ml mi : M (List D)} {ms : M Fl} {op : Operator} {sts : List Stmt} {p0 ap cp pos py p1 a1 p2 a2 p3 a3 p4 a4 p5 p6 p7 c1 c2 u1 u2 : Pos} {k1 k2} (k i : Nat) (nd : X.N.Nodup) (hml : GL X W eL ml) (hmi : GI X W (.Name y py) iter mi)
    (hr : OpR X (binaryOp op) r) (ho : OpD X.K r f) (hx : GE X W ex mx) (h2 : GSs X W mp sts ms) (hp : PassesOwn (model X.prog X.w) X.A X.env X.xe)
    (hkm : k ∉ mp := by decide) (him : i ∉ mp := by decide) (hki : k ≠ i := by decide)
    (hN : X.N[k]? = some x := by rfl) (hv : Vis X.env.scope x := by first | exact Or.inl rfl | exact Or.inr (Or.inl rfl) | exact Or.inr (Or.inr rfl)) (hd : (x == ("__debug__" : Str)) = false := by decide)
    (hcd : (x == ("__classdict__" : Str)) = false := by decide)
    (hNy : X.N[i]? = some y := by rfl) (hvy : Vis X.env.scope y := by first | exact Or.inl rfl | exact Or.inr (Or.inl rfl) | exact Or.inr (Or.inr rfl)) (hdy : (y == ("__debug__" : Str)) = false := by decide)
    (hcdy : (y == ("__classdict__" : Str)) = false := by decide) (hly : Loc X.env.scope y := by first | exact .inl rfl | exact .inr rfl)
    (hfy : X.fn y = true ∨ X.env.scope.names.lookup y = some .local := by first | exact .inl rfl | exact .inr rfl | assumption)
    (hbase : attributeBase (.Name x p0) "append" X.env (eval (.Name x p0) X.env) = eval (.Name x p0) X.env := by rfl)
    (hfew : ((backTo cp (starEach [eL] X.env)).all (fun x => !x.1) && (backToKw cp (keywordEach [] X.env)).all (fun x => x.1.isSome)
      && decide ([eL].length + ([] : List Keyword).length + (if ([] : List Keyword).isEmpty then 0 else 1) < 30)) = true := by rfl)
    (hline : (ap.endLine == cp.line) = true := by rfl) (hse : starEach [eL] X.env = (false, eval eL X.env) :: starEach [] X.env := by rfl) (hplain : (backTo cp (starEach [] X.env)).any (·.1) = false := by rfl)
    (hs : swapsWith (.Call (.Attribute (.Name x p0) "append" ap) [eL] [] cp) none pos.line X.env = pure false := by rfl)
    (ha : ∀ v, assign (.Subscript (.Subscript (.Name x p1) (.UnaryOp .USub (.Constant (.int 1) k1 c1) u1) a1) (.Name y p2) a2) X.env v = (do
      let ov ← holding [v] (eval (.Subscript (.Name x p1) (.UnaryOp .USub (.Constant (.int 1) k1 c1) u1) a1) X.env)
      let iv ← holding [v, ov] (eval (.Name y p2) X.env)
      standAt a2
      holding [v, ov, iv] (setItem ov iv v)
      release [v, ov, iv] []) := by intro _; rfl)
    (hsw : swapsWithSole [.Subscript (.Subscript (.Name x p1) (.UnaryOp .USub (.Constant (.int 1) k1 c1) u1) a1) (.Name y p2) a2] (.BinOp (.Subscript (.Subscript (.Name x p3) (.UnaryOp .USub (.Constant (.int 1) k2 c2) u2) a3) (.Name y p4) a4) op ex p5) p6.line X.env = pure false := by rfl)
    (hw : swappedStores [.Subscript (.Subscript (.Name x p1) (.UnaryOp .USub (.Constant (.int 1) k1 c1) u1) a1) (.Name y p2) a2] (.BinOp (.Subscript (.Subscript (.Name x p3) (.UnaryOp .USub (.Constant (.int 1) k2 c2) u2) a3) (.Name y p4) a4) op ex p5) X.env = pure none := by rfl)
    (h1 : (assignEach [.Subscript (.Subscript (.Name x p1) (.UnaryOp .USub (.Constant (.int 1) k1 c1) u1) a1) (.Name y p2) a2] X.env).map (·.2) = [assign (.Subscript (.Subscript (.Name x p1) (.UnaryOp .USub (.Constant (.int 1) k1 c1) u1) a1) (.Name y p2) a2) X.env] := by rfl)
    (hc : X.calm = true := by rfl) (hsf : ∀ x, foldedSetIterable iter X.env x = pure x := by intro _; rfl) (hpl : ∀ q : Pos, PlainIx (.Name y q) := by exact fun _ _ _ => rfl) (hpl1 : ∀ k (c u : Pos), PlainIx (.UnaryOp .USub (.Constant (.int 1) k c) u) := by exact fun _ _ _ _ _ => rfl) :
    GSs X W mp (.Expr (.Call (.Attribute (.Name x p0) "append" ap) [eL] [] cp) pos :: .For (.Name y py) iter [.Assign [.Subscript (.Subscript (.Name x p1) (.UnaryOp .USub (.Constant (.int 1) k1 c1) u1) a1) (.Name y p2) a2] (.BinOp (.Subscript (.Subscript (.Name x p3) (.UnaryOp .USub (.Constant (.int 1) k2 c2) u2) a3) (.Name y p4) a4) op ex p5) p6] [] p7 :: sts)
      (mSeq (mNest k i ml mi f mx) ms) := by
  obtain ⟨tl, pl, ql⟩ := hml
  obtain ⟨wi, pi, qi⟩ := hmi
  obtain ⟨tx, px, qx⟩ := hx
  obtain ⟨t2, pp2, q2⟩ := h2
  have pv : ∀ q : Pos, PE X (.Name x q) (tVar k) := fun q => pe_var hN hv hd hcd
  have pvy : ∀ q : Pos, PE X (.Name y q) (tVar i) := fun q => pe_var hNy hvy hdy hcdy
  have pm : ∀ kk (c u q a : Pos), PE X (.Subscript (.Name x q) (.UnaryOp .USub (.Constant (.int 1) kk c) u) a) (tOp (rIx X.K) (tVar k) tM1) := fun kk c u q a => pe_ix ix_seq (pv q) (pe_un un_neg pe_int) (hpl1 _ _ _)
  refine ⟨_, pss_cons (ps_expr (pe_bm PySem.F.plainAttrs_list PySem.F.slot_list_append PySem.F.type_list_append mt_append (pv p0) (pa_cons pl pa_nil hse) hbase hfew hline hse hplain) hs)
    (pss_cons (ps_for hp hc pi (pg_name nd hNy hly hfy) (pss_one (ps_asg (pe_op hr (pe_ix ix_seq (pm _ _ _ _ _) (pvy p4) (hpl _)) px) (pg_sub (pm _ _ _ _ _) (pvy p2) set_list ha) hsw hw h1)) hsf) pp2), fun B G H σ S Z nm R h => ?_⟩
  unfold mSeq mNest at h
  split at h
  case h_2 => exact h.elim
  rename_i es0 hk
  obtain ⟨l, vs0, hσ, hl0, _⟩ := R.sl k _ hk
  refine ⟨_, hσ, .inl ⟨rfl, _, SqL.of hl0⟩, ql B G H σ S _ R ?_⟩
  cases hm : ml S with
  | bad => rw [hm] at h; exact h
  | err c pl S2 => rw [hm] at h; exact fun cls dd G' H' e2 => h cls dd σ G' H' e2
  | ok xs S1 =>
  rw [hm, Rs.bind_ok] at h
  intro p ws G1 H1 e1 R1 hp1 dw gp bp ns
  split at h
  case h_2 => exact h.elim
  rename_i ds hk1
  split at h
  case isFalse => exact h.elim
  rename_i hz
  split at h
  case h_2 => exact h.elim
  rename_i its S2 hmi
  split at h
  case isFalse => exact h.elim
  rename_i hS2
  subst hS2
  split at h
  case h_2 => exact h.elim
  rename_i ys S3 hloop
  have h' : PoS X.K X.mg B W G (ms (S3.set k (.ow (ds ++ [.lst ys])))) Z := h
  obtain ⟨l', vs, q1, q2', q3, q4⟩ := R1.own hk1 hσ
  cases q1
  have bl : B.H l = none := by
    obtain ⟨l2, _, z1, _, _, _, z5⟩ := R1.sl k _ hk1
    rw [hσ] at z1
    cases z1
    rcases z5 with z | z
    · exact z
    · exact absurd (nm _ z) hkm
  have nlp : l ≠ p := fun e => ns k ds hk1 (by rw [hσ, e])
  have kl : k < S1.length := (List.getElem?_eq_some_iff.mp hk1).1
  -- the list's slot out of sight
  have Rk : Rel X.K B G1 H1 σ (S1.set k .no) := R1.unown
  have nsl : ∀ (j : Nat) (xs : List D), (S1.set k .no)[j]? = some (SV.ow xs) → σ[j]? ≠ some (some (V.ref l)) ∧ σ[j]? ≠ some (some (V.ref p)) := fun j xs hj => by
    have nj : j ≠ k := fun z => by subst z; rw [List.getElem?_set_self kl] at hj; cases hj
    rw [List.getElem?_set_ne (Ne.symm nj)] at hj
    exact ⟨fun z => R1.ds j k xs ds nj hj hk1 (by rw [z, hσ]), ns j xs hj⟩
  refine ⟨l, vs, .ref p, rfl, rfl, q2', by rw [q3.length]; exact cap_lt hz, ?_⟩
  have R2 : Rel X.K B G1 (upd H1 l (.lst (vs ++ [.ref p]))) σ (S1.set k .no) := Rk.wrL q4 bl (ne_none q2') fun j xs hj => (nsl j xs hj).1
  have hl2 : upd H1 l (.lst (vs ++ [.ref p])) l = some (.lst (vs ++ [.ref p])) := upd_same
  have hp2 : upd H1 l (.lst (vs ++ [.ref p])) p = some (.lst ws) := by rw [upd_ne (Ne.symm nlp)]; exact hp1
  generalize upd H1 l (.lst (vs ++ [.ref p])) = H2 at R2 hl2 hp2 ⊢
  generalize hSk : S1.set k .no = Sk at *
  have lk : k < Sk.length := by rw [← hSk, List.length_set]; exact kl
  show wi σ H2 _
  refine qi ⟨G1, H2, []⟩ G1 H2 σ (hid Sk) _ R2.hid ?_
  rw [hmi]
  intro J G3 H3 e3 R3' yl
  obtain ⟨R3, eh, nw⟩ := R2.back e3 R3'
  have hl3 := eh _ _ hl2
  have hp3 := eh _ _ hp2
  have gl3 := gnone nw hl2 q4
  have gp3 := gnone nw hp2 gp
  refine ⟨fun n m σ' H' => ∃ G' S' xs' ws', m = its.length - n ∧ n ≤ its.length ∧ Ex G3 G' ∧ Rel X.K B G' H' σ' S' ∧ nestLoop i f mx (its.drop n) xs' S' = some (ys, S3) ∧ H' l = some (.lst (vs ++ [.ref p])) ∧ H' p = some (.lst ws') ∧ G' l = none ∧ G' p = none ∧ DPs X.K G' ws' xs' ∧ σ'[k]? = some (some (.ref l)) ∧ k < S'.length
      ∧ (∀ (j : Nat) (xs : List D), S'[j]? = some (SV.ow xs) → σ'[j]? ≠ some (some (V.ref l)) ∧ σ'[j]? ≠ some (some (V.ref p))),
    ⟨its.length, G3, Sk, xs, ws, by simp, Nat.zero_le _, Ex.refl _, R3, by rw [List.drop_zero]; exact hloop, hl3, hp3, gl3, gp3, dw.mono e3, hσ, lk, nsl⟩, ?_⟩
  rintro n m σ' H' ⟨G', S', xs', ws', rfl, hn, eg, R', hres, hl', hp', gl', gp', dw', hσ', lk', ns'⟩
  by_cases hlt : n < its.length
  · have hdn : its[n]? = some its[n] := List.getElem?_eq_getElem hlt
    rw [List.drop_eq_getElem_cons hlt] at hres
    obtain ⟨_, yq⟩ := yl n G' H' eg R'.gh
    obtain ⟨ygo, yit⟩ := yq _ hdn
    refine .inr ⟨ygo, fun σ2 H2 => ∃ G' S' xs' ws', Ex G3 G' ∧ Rel X.K B G' H2 σ2 S' ∧ nestLoop i f mx (its.drop (n + 1)) xs' S' = some (ys, S3) ∧ H2 l = some (.lst (vs ++ [.ref p])) ∧ H2 p = some (.lst ws') ∧ G' l = none ∧ G' p = none ∧ DPs X.K G' ws' xs' ∧ σ2[k]? = some (some (.ref l)) ∧ k < S'.length
      ∧ (∀ (j : Nat) (xs : List D), S'[j]? = some (SV.ow xs) → σ2[j]? ≠ some (some (V.ref l)) ∧ σ2[j]? ≠ some (some (V.ref p))), fun σ2 H2 nn => ?_, fun xv H4 hy => ?_⟩
    · obtain ⟨g1, g2, g3, g4, g5⟩ := nn
      exact ⟨its.length - (n + 1), by omega, g1, g2, g3, g4, rfl, hlt, g5⟩
    · obtain ⟨G4, al, dx⟩ := yit xv H4 hy
      have R4 := R'.alc al
      have e4 := al.ex R'.gh
      have al2 : H4 l = some (.lst (vs ++ [.ref p])) ∧ H4 p = some (.lst ws') ∧ G4 l = none ∧ G4 p = none := by
        rcases al with ⟨rfl, rfl⟩ | ⟨q, o, hq, rfl, rfl⟩
        · exact ⟨hl', hp', gl', gp'⟩
        · have n1 := ne_of_none hl' hq
          have n2 := ne_of_none hp' hq
          rw [upd_ne n1, upd_ne n2, upd_ne n1, upd_ne n2]
          exact ⟨hl', hp', gl', gp'⟩
      obtain ⟨b1, b2, b3, b4⟩ := al2
      generalize its[n] = dn at hres dx
      cases dn with
      | int z =>
        unfold nestLoop at hres
        split at hres
        case h_2 => cases hres
        rename_i x1 j1 b5 S5 ea ej eb
        split at hres
        case isFalse => cases hres
        rename_i hcond
        obtain ⟨il, rfl⟩ := hcond
        split at hres
        case h_2 => cases hres
        rename_i y1 ey
        cases dx
        have R5 : Rel X.K B G4 H4 (σ'.set i (some (.int z))) (S'.set i (.fz (.int z))) := R4.putF il (fun m hm' z => him (by rw [← z]; exact nm m hm')) (.int z)
        have ne : ∀ (j : Nat) (xs : List D), (S'.set i (SV.fz (.int z)))[j]? = some (SV.ow xs) → (σ'.set i (some (V.int z)))[j]? ≠ some (some (V.ref l)) ∧ (σ'.set i (some (V.int z)))[j]? ≠ some (some (V.ref p)) := fun j xs hj => by
          have nj : j ≠ i := fun z => by subst z; rw [List.getElem?_set_self il] at hj; cases hj
          rw [List.getElem?_set_ne (Ne.symm nj)] at hj ⊢
          exact ns' j xs hj
        have hk5 : (σ'.set i (some (V.int z)))[k]? = some (some (.ref l)) := by rw [List.getElem?_set_ne (Ne.symm hki)]; exact hσ'
        have hi5 : (σ'.set i (some (V.int z)))[i]? = some (some (.int z)) := List.getElem?_set_self (by rw [R'.ln]; exact il)
        refine nest_body (mx := mx) (f := f) ho qx R5 hk5 hi5 b1 b2 b3 b4 (dw'.mono e4) bp nlp (fun j xs hj => (ne j xs hj).2) ea ej eb ey fun G6 H6 ws6 e6 R6 c1 c2 c3 c4 c5 => ?_
        exact ⟨G6, _, _, ws6, (eg.trans e4).trans e6, R6, hres, c1, c2, c4, c5, c3, hk5, by rw [List.length_set]; exact lk', ne⟩
      | _ =>
        unfold nestLoop at hres
        cases hres
  · have en : n = its.length := by omega
    subst en
    rw [List.drop_length] at hres
    have hres' : some (xs', S') = some (ys, S3) := by unfold nestLoop at hres; exact hres
    cases hres'
    refine .inl ⟨(yl _ G' H' eg R'.gh).1 (Nat.le_refl _), ?_⟩
    have R7 := R'.freeze hp' gp' (.inl bp) fun j xs hj => (ns' j xs hj).2
    have e7 : Ex G' (upd G' p (.lst ws')) := Ex.new gp'
    have d7 : DPs X.K (upd G' p (.lst ws')) (vs ++ [.ref p]) (ds ++ [.lst ys]) := ((q3.mono (e3.trans (eg.trans e7))).append (.one (.lst upd_same (dw'.mono e7))))
    have R8 := R7.put (i := k) (v := .ref l) (s := .ow (ds ++ [.lst ys])) lk' (fun m hm' z => hkm (by rw [← z]; exact nm m hm')) ⟨l, _, List.getElem?_set_self (by rw [R'.ln]; exact lk'), hl', d7, by rw [upd_ne nlp]; exact gl', .inl bl⟩ (fun j xs ys' hjk _ hj => (ns' j ys' hj).1)
    have es : σ'.set k (some (V.ref l)) = σ' := by
      refine List.ext_getElem? fun j => ?_
      by_cases ej : j = k
      · subst ej; rw [List.getElem?_set_self (by rw [R'.ln]; exact lk'), hσ']
      · rw [List.getElem?_set_ne (Ne.symm ej)]
    rw [es] at R8
    refine q2 B _ H' σ' _ Z nm R8 (PoS.mono (e1.trans (e3.trans (eg.trans e7))) h')
end
end Q4


set_option Elab.async false
set_option linter.all false
set_option maxRecDepth 100000
set_option maxHeartbeats 4000000
/-! Part N2: calls whose list is handed on; tests that only look; *= of great numbers. -/
namespace Q4
open PySem PySem.Spec PyProof.Rows L2 Evl

/-! ### a call whose list is handed on -/
def PoR (K : PySem.W.Frag) (mg : Str → Option Value) (B : Bs) (W : WX) (σ : L2.St) (G : Hp) (r : Rs Ret) (Q : VK) : Prop := match r with
  | .ok (.v d) S' => ∀ v G' H', Ex G G' → Rel K B G' H' σ S' → DP K G' v d → Q v H'
  | .ok (.l ds) S' => ∀ p vs G' H', Ex G G' → Rel K B G' H' σ S' → H' p = some (.lst vs) → DPs K G' vs ds → G' p = none → B.H p = none → (∀ (i : Nat) (xs : List D), S'[i]? = some (SV.ow xs) → σ[i]? ≠ some (some (.ref p))) → Q (.ref p) H'
  | .err c pl S' => ∀ cls dd G' H', Ex G G' → Rel K B G' H' σ S' → ErrAt mg K G' H' c pl cls dd → W cls (some dd) σ H'
  | .bad => False
def GR (X : Cx) (W : WX) (e : Expr) (m : M Ret) : Prop :=
  ∃ t : TE, PE X e t ∧ ∀ B G H σ S Q, Rel X.K B G H σ S → PoR X.K X.mg B W σ G (m S) Q → t σ H Q
def mFnR (fm : FM) (dds : List D) (ms : M (List D)) : M Ret := fun S => (ms S).bind fun ds S1 => match fm ((ds ++ dds).map .fz) with
  | .ok r _ => .ok r S1
  | .err c pl _ => .err c pl S1
  | .bad => .bad
def mRetR (m : M Ret) : M Fl := fun S => (m S).bind fun r S1 => match r with
  | .v d => .ok (.rt d) S1
  | .l ds => .ok (.rl ds) S1
def Ret.sv : Ret → SV
  | .v d => .fz d
  | .l ds => .ow ds
def mAsgR (i : Nat) (m : M Ret) : M Fl := fun S => (m S).bind fun r S1 => if i < S1.length then .ok .nx (S1.set i r.sv) else .bad
section
variable {X : Cx} {W : WX} {k j n : Nat} {fm : FM} {x y : Str} {p p2 pos pos' : Pos} {e : Expr} {es : List Expr} {ms : M (List D)} {dds : List D} {mp : List Nat} {mr : M Ret}
theorem gr_cal (C : Cal4 X.prog X.w X.K X.mg X.base k x n [] fm dds) (hr : Room j X.A) (hj : k ≤ j) (hgd : X.A.guards = some []) (tk : Takes X W) (ha : GA X W (e :: es) ms)
    (hlen : HasLen ms n := by repeat' (first | exact ml_nil | apply ml_cons)) (hg : Gl X x := by rfl)
    (hdb : (x == ("__debug__" : Str)) = false := by decide) (he : starEach (e :: es) X.env = (false, eval e X.env) :: starEach es X.env := by rfl) (hpl : (backTo pos (starEach es X.env)).any (·.1) = false := by rfl) : GR X W (.Call (.Name x p) (e :: es) [] pos) (mFnR fm dds ms) := by
  obtain ⟨f, fd, ps, dvs, dus, F, hm, hk, hb, hd, hdd, hn⟩ := C.ex
  obtain ⟨t, pa, qa⟩ := ha
  refine ⟨_, pe_callG F (hr.mono hj) hgd hm hk hb hd tk pa hg hdb he hpl, fun B G H σ S Q R h => ?_⟩
  refine qa B G H σ S _ R ?_
  unfold mFnR at h
  cases hms : ms S with
  | bad => rw [hms] at h; exact h
  | err c pl S' => rw [hms] at h; exact h
  | ok ds S' =>
    rw [hms, Rs.bind_ok] at h
    intro vs G1 H1 e1 R1 dv
    have dv2 : DPs X.K G1 (vs ++ dvs) (ds ++ dds) := dv.append (hdd G1)
    refine ⟨by rw [List.length_append, dv.length, hlen S ds S' hms]; exact hn, G1, _, R1.gh, argOk_fz dv2, ?_⟩
    cases hf : fm ((ds ++ dds).map .fz) with
    | bad => rw [hf] at h; exact h.elim
    | err c pl A' =>
      rw [hf] at h
      exact fun cls dd G' H' po er => h cls dd G' H' (e1.trans po.gg) (R1.post0 po) er
    | ok r A' =>
      rw [hf] at h
      cases r with
      | v d => exact fun v G' H' po dv => h v G' H' (e1.trans po.gg) (R1.post0 po) dv
      | l us => exact fun p ws G' H' po hp dw gp bp => h p ws G' H' (e1.trans po.gg) (R1.post0 po) hp dw gp (R1.noB bp) (R1.noS bp)
theorem gs_retR (he : GR X W e mr) : GS X W mp (.Return (some e) pos) (mRetR mr) := by
  obtain ⟨t, p, q⟩ := he
  refine ⟨_, ps_ret p, fun B G H σ S Z nm R h => ?_⟩
  refine q B G H σ S _ R ?_
  unfold mRetR at h
  cases hm : mr S with
  | bad => rw [hm] at h; exact h
  | err c pl S' => rw [hm] at h; exact fun cls dd G' H' => h cls dd σ G' H'
  | ok r S' =>
    rw [hm, Rs.bind_ok] at h
    cases r with
    | v d => exact fun v G' H' => h v σ G' H'
    | l ds => exact fun p vs G' H' => h p vs σ G' H'
theorem gs_asgR (i : Nat) (nd : X.N.Nodup) (he : GR X W e mr) (hm : i ∉ mp := by decide) (hN : X.N[i]? = some x := by rfl) (hx : Loc X.env.scope x := by first | exact .inl rfl | exact .inr rfl) (hs : swapsWith e (some (.Name x pos')) pos.line X.env = pure false := by rfl)
    (hf : X.fn x = true ∨ X.env.scope.names.lookup x = some .local := by first | exact .inl rfl | exact .inr rfl | assumption) : GS X W mp (.Assign [.Name x pos'] e pos) (mAsgR i mr) := by
  obtain ⟨te, pe, qe⟩ := he
  refine ⟨_, ps_set nd hN hx pe hs hf, fun B G H σ S Z nm R h => ?_⟩
  refine qe B G H σ S _ R ?_
  unfold mAsgR at h
  cases hm' : mr S with
  | bad => rw [hm'] at h; exact h
  | err c pl S' => rw [hm'] at h; exact fun cls dd G' H' => h cls dd σ G' H'
  | ok r S' =>
    rw [hm', Rs.bind_ok] at h
    have hm2 : ∀ m ∈ B.M, m.1 ≠ i := fun m hm3 z => hm (by rw [← z]; exact nm m hm3)
    by_cases hl : i < S'.length
    · rw [if_pos hl] at h
      cases r with
      | v d => exact fun v G1 H1 e1 R1 dv => h _ G1 H1 e1 (R1.putF hl hm2 dv)
      | l ds => exact fun p vs G1 H1 e1 R1 hp dv gp bp ns => h _ G1 H1 e1 (R1.putO hl hm2 hp dv gp bp ns)
    · rw [if_neg hl] at h
      exact h.elim
end

/-! ### looking only -/
def SV.frz : SV → SV
  | .ow ds => .fz (.lst ds)
  | s => s
def frz (S : SS) : SS := S.map SV.frz
theorem frz_get (S : SS) (i : Nat) : (frz S)[i]? = (S[i]?).map SV.frz := by unfold frz; rw [List.getElem?_map]
open Classical in
/-- owned lists are read as values, and are owned behind it -/
noncomputable def mLook (m : M Bool) : M Bool := fun S => match m (frz S) with
  | .ok b S' => if S' = frz S then .ok b S else .bad
  | _ => .bad
section
variable {K : PySem.W.Frag} {B : Bs} {G H G' H' : Hp} {σ : L2.St} {S : SS}
open Classical in
/-- the owned lists of a state, laid over what is frozen -/
theorem Rel.frz (R : Rel K B G H σ S) : ∃ G2, Ex G G2 ∧ Rel K ⟨G2, H, []⟩ G2 H σ (Q4.frz S) := by
  let own : Addr → Prop := fun l => ∃ (i : Nat) (ds : List D), S[i]? = some (SV.ow ds) ∧ σ[i]? = some (some (V.ref l))
  let G2 : Hp := fun a => if own a then H a else G a
  have eg : Ex G G2 := fun a o h => by
    show (if own a then H a else G a) = some o
    split
    · exact R.gh _ _ h
    · exact h
  refine ⟨G2, eg, fun a o h => ?_, Ex.refl _, fun a h => .inl h, fun a o h _ => h, by unfold Q4.frz; rw [List.length_map]; exact R.ln, fun i s h => ?_, fun i j xs ys _ h _ => ?_, fun m hm => (by cases hm), fun m hm => (by cases hm)⟩
  · have h' : (if own a then H a else G a) = some o := h
    split at h'
    · exact h'
    · exact R.gh _ _ h'
  · rw [frz_get] at h
    cases q : S[i]? with
    | none => rw [q] at h; cases h
    | some t =>
      rw [q] at h
      have e : t.frz = s := Option.some.inj h
      subst e
      cases t with
      | no => trivial
      | fz d =>
        obtain ⟨v, h1, h2⟩ := R.sl i _ q
        exact ⟨v, h1, h2.mono eg⟩
      | ow ds =>
        obtain ⟨l, vs, h1, h2, h3, h4, h5⟩ := R.sl i _ q
        refine ⟨_, h1, .lst (xs := vs) ?_ (h3.mono eg)⟩
        show (if own l then H l else G l) = _
        rw [if_pos ⟨i, ds, q, h1⟩]
        exact h2
  · rw [frz_get] at h
    cases q : S[i]? with
    | none => rw [q] at h; cases h
    | some t =>
      rw [q] at h
      cases t with
      | _ => cases h
theorem Rel.unfrz {G2 : Hp} (R : Rel K B G H σ S) (R' : Rel K ⟨G2, H, []⟩ G' H' σ (Q4.frz S)) : Rel K B G H' σ S := by
  have eh : Ex H H' := fun a o h => R'.kp a o h fun m hm => by cases hm
  refine ⟨R.gh.trans eh, R.gg, R.fr, fun a o h hm => eh _ _ (R.kp a o h hm), R.ln, fun i s h => ?_, R.ds, R.mm, fun m hm => ?_⟩
  · cases s with
    | no => trivial
    | fz d => exact R.sl i _ h
    | ow ds =>
      obtain ⟨l, vs, h1, h2, h3, h4, h5⟩ := R.sl i _ h
      exact ⟨l, vs, h1, eh _ _ h2, h3, h4, h5⟩
  · obtain ⟨o, ho⟩ := R.mh m hm
    exact ⟨o, eh _ _ ho⟩
end
section
variable {X : Cx} {W : WX} {e : Expr} {m : M Bool}
theorem gt_look (he : GT X W e m) : GT X W e (mLook m) := by
  obtain ⟨t, p, q⟩ := he
  refine ⟨t, p, fun B G H σ S Q R h => ?_⟩
  obtain ⟨G2, eg, R2⟩ := R.frz
  refine q ⟨G2, H, []⟩ G2 H σ (frz S) Q R2 ?_
  unfold mLook at h
  cases hm : m (frz S) with
  | bad => rw [hm] at h; exact h
  | err c pl S' => rw [hm] at h; exact h.elim
  | ok b S' =>
    rw [hm] at h
    simp only at h
    split at h
    · rename_i hS
      subst hS
      exact fun G' H' e1 R' => h G H' (Ex.refl _) (R.unfrz R')
    · exact h.elim
theorem iop_mulW : OpR X (inplaceOp .Mult) (rI CMulW fun i j => .int (i * j)) := opI fun _ _ _ _ _ _ _ hc q => imul_int q hc.ok
end

/-! ### a list turned round -/
def mRevL (ma : M D) : M D := fun S => (ma S).bind fun a S1 => match a with
  | .lst ds => .ok (.lst ds.reverse) S1
  | _ => .bad
theorem ge_revL {X : Cx} {W : WX} {a : Expr} {ma : M D} {k : Nat} {p1 p2 p3 pos : Pos} (ha : GE X W a ma) : GE X W (.Subscript a (.Slice none none (some (.UnaryOp .USub (.Constant (.int 1) k p1) p2)) p3) pos) (mRevL ma) := by
  obtain ⟨ta, pa, qa⟩ := ha
  refine ⟨_, pe_revL pa, fun B G H σ S Q R h => ?_⟩
  refine qa B G H σ S _ R ?_
  unfold mRevL at h
  cases hm : ma S with
  | bad => rw [hm] at h; exact h
  | err c pl S' => rw [hm] at h; exact h
  | ok d S' =>
    rw [hm, Rs.bind_ok] at h
    intro v G1 H1 e1 R1 d1
    cases d1 with
    | lst h1 hs1 =>
      rename_i aa xs ds
      refine ⟨_, _, rfl, SqL.of (R1.gh _ _ h1), fun p hp => ?_⟩
      have al : Alc G1 H1 _ _ := .inr ⟨p, .lst xs.reverse, hp, rfl, rfl⟩
      exact h _ _ _ (e1.trans (al.ex R1.gh)) (R1.alc al) (.lst upd_same (hs1.reverse.mono (al.ex R1.gh)))
    | _ => exact h.elim

/-! ### a slice of an owned name -/
def mSlV (k : Nat) (ml mh : M (Option Int)) : M D := fun S => match S[k]? with
  | some (.fz d) => (ml S).bind fun l S2 => (mh S2).bind fun u S3 => match d with
    | .tup ds => .ok (.tup (cutD ds l u)) S3
    | .lst ds => .ok (.lst (cutD ds l u)) S3
    | _ => .bad
  | some (.ow _) => (ml S).bind fun l S2 => (mh S2).bind fun u S3 => match S3[k]? with
    | some (.ow ds) => .ok (.lst (cutD ds l u)) S3
    | _ => .bad
  | _ => .bad
section
variable {X : Cx} {W : WX} {x : Str} {p p2 pos : Pos} {lo hi : Option Expr} {ml mh : M (Option Int)}
theorem sl_parts {tl th : TO} (ql : ∀ (B : Bs) (G H : Hp) (σ : L2.St) (S : SS) (Q : Option Int → Hp → Prop), Rel X.K B G H σ S → (match ml S with
    | .ok o S' => ∀ G' H', Ex G G' → Rel X.K B G' H' σ S' → Q o H'
    | .err c pl S' => ∀ cls dd G' H', Ex G G' → Rel X.K B G' H' σ S' → ErrAt X.mg X.K G' H' c pl cls dd → W cls (some dd) σ H'
    | .bad => False) → tl σ H Q) (qh : ∀ (B : Bs) (G H : Hp) (σ : L2.St) (S : SS) (Q : Option Int → Hp → Prop), Rel X.K B G H σ S → (match mh S with
    | .ok o S' => ∀ G' H', Ex G G' → Rel X.K B G' H' σ S' → Q o H'
    | .err c pl S' => ∀ cls dd G' H', Ex G G' → Rel X.K B G' H' σ S' → ErrAt X.mg X.K G' H' c pl cls dd → W cls (some dd) σ H'
    | .bad => False) → th σ H Q) {B : Bs} {G H : Hp} {σ : L2.St} {S : SS} {Q : VK} {f : Option Int → Option Int → SS → Rs D} {r : Option Int → Option Int → Hp → VK → Prop} (R : Rel X.K B G H σ S)
    (h : PoE X.K X.mg B W σ G ((ml S).bind fun l S2 => (mh S2).bind fun u S3 => f l u S3) Q)
    (k : ∀ l u S3 G3 H3, Ex G G3 → Rel X.K B G3 H3 σ S3 → PoE X.K X.mg B W σ G (f l u S3) Q → r l u H3 Q) : tl σ H fun l H2 => th σ H2 fun u H3 => r l u H3 Q := by
  refine ql B G H σ S _ R ?_
  cases hn : ml S with
  | bad => rw [hn] at h; exact h
  | err c pl S2 => rw [hn] at h; exact h
  | ok l S2 =>
    rw [hn, Rs.bind_ok] at h
    intro G2 H2 e2 R2
    refine qh B G2 H2 σ S2 _ R2 ?_
    cases hq : mh S2 with
    | bad => rw [hq] at h; exact h
    | err c pl S3 => rw [hq] at h; exact fun cls dd G' H' e => h cls dd G' H' (e2.trans e)
    | ok u S3 =>
      rw [hq, Rs.bind_ok] at h
      intro G3 H3 e3 R3
      exact k l u S3 G3 H3 (e2.trans e3) R3 h
theorem ge_slV (k : Nat) (hl : GO X W lo ml) (hh : GO X W hi mh) (hN : X.N[k]? = some x := by rfl) (hv : Vis X.env.scope x := by first | exact Or.inl rfl | exact Or.inr (Or.inl rfl) | exact Or.inr (Or.inr rfl)) (hd : (x == ("__debug__" : Str)) = false := by decide)
    (hcd : (x == ("__classdict__" : Str)) = false := by decide) : GE X W (.Subscript (.Name x p) (.Slice lo hi none p2) pos) (mSlV k ml mh) := by
  obtain ⟨tl, pl, ql⟩ := hl
  obtain ⟨th, ph, qh⟩ := hh
  refine ⟨_, pe_slice (SlR.or (r := rSlA X.K) (r' := rSlL X.K) sl_tupA sl_list) (pe_var hN hv hd hcd) pl ph, fun B G H σ S Q R h => ?_⟩
  unfold mSlV at h
  cases hs : S[k]? with
  | none => rw [hs] at h; exact h.elim
  | some s =>
    rw [hs] at h
    cases s with
    | no => exact h.elim
    | fz d =>
      obtain ⟨v, hv1, d1⟩ := R.sl k _ hs
      refine ⟨v, hv1, sl_parts ql qh (r := fun l u H3 Q => (rSlA X.K v l u H3 Q ∨ rSlL X.K v l u H3 Q)) R h fun l u S3 G3 H3 e3 R3 h => ?_⟩
      cases d1 with
      | @tup aa xs ds h1 hs1 =>
        have ht := ex_t e3 h1
        have hs := hs1.mono e3
        have ln := hs.length
        refine .inl ⟨_, _, rfl, ex_t R3.gh ht, fun z => ?_, fun z p hp => ?_⟩
        · rw [ln] at z
          refine h _ G3 H3 e3 R3 ?_
          rw [cutD_whole z]
          exact .tup ht hs
        · have al : Alc G3 H3 _ _ := .inr ⟨p, .tup (cutV xs l u), hp, rfl, rfl⟩
          exact h _ _ _ (e3.trans (al.ex R3.gh)) (R3.alc al) (.tup (SqT.of upd_same) ((hs.cut l u).mono (al.ex R3.gh)))
      | @lst aa xs ds h1 hs1 =>
        have hs := hs1.mono e3
        refine .inr ⟨_, _, rfl, SqL.of (R3.gh _ _ (e3 _ _ h1)), fun p hp => ?_⟩
        have al : Alc G3 H3 _ _ := .inr ⟨p, .lst (cutV xs l u), hp, rfl, rfl⟩
        exact h _ _ _ (e3.trans (al.ex R3.gh)) (R3.alc al) (.lst upd_same ((hs.cut l u).mono (al.ex R3.gh)))
      | _ => exact h.elim
    | ow es =>
      obtain ⟨l0, vs0, hσ, hl0, _⟩ := R.sl k _ hs
      refine ⟨_, hσ, sl_parts ql qh (r := fun l u H3 Q => (rSlA X.K (.ref l0) l u H3 Q ∨ rSlL X.K (.ref l0) l u H3 Q)) R h fun l u S3 G3 H3 e3 R3 h => ?_⟩
      split at h
      · rename_i ds hk
        obtain ⟨l, vs, q1, q2, q3, q4⟩ := R3.own hk hσ
        cases q1
        refine .inr ⟨_, _, rfl, SqL.of q2, fun p hp => ?_⟩
        have al : Alc G3 H3 _ _ := .inr ⟨p, .lst (cutV vs l u), hp, rfl, rfl⟩
        exact h _ _ _ (e3.trans (al.ex R3.gh)) (R3.alc al) (.lst upd_same ((q3.cut l u).mono (al.ex R3.gh)))
      · exact h.elim
end

/-! ### what they come to -/
theorem s_slVO {S : SS} {k : Nat} {es : List D} {ml mh : M (Option Int)} {Q : D → SS → Prop} (h0 : S[k]? = some (.ow es)) (h : (ml S).sat fun l S2 => (mh S2).sat fun u S3 => S3[k]? = some (.ow es) ∧ Q (.lst (cutD es l u)) S3) : (mSlV k ml mh S).sat Q := by
  unfold mSlV
  rw [h0]
  refine sat_bind (sat_mono h fun l S2 h2 => sat_bind (sat_mono h2 fun u S3 ⟨e, q⟩ => ?_))
  rw [e]
  exact sat_ok q
theorem s_slVF {S : SS} {k : Nat} {es : List D} {ml mh : M (Option Int)} {Q : D → SS → Prop} (h0 : S[k]? = some (.fz (.lst es))) (h : (ml S).sat fun l S2 => (mh S2).sat fun u S3 => Q (.lst (cutD es l u)) S3) : (mSlV k ml mh S).sat Q := by
  unfold mSlV
  rw [h0]
  exact sat_bind (sat_mono h fun l S2 h2 => sat_bind (sat_mono h2 fun u S3 q => sat_ok q))
theorem s_revL {S : SS} {ma : M D} {Q : D → SS → Prop} (h : (ma S).sat fun a S1 => ∃ ds, a = .lst ds ∧ Q (.lst ds.reverse) S1) : (mRevL ma S).sat Q := by
  unfold mRevL
  refine sat_bind (sat_mono h fun a S1 ⟨ds, e, q⟩ => ?_)
  subst e
  exact sat_ok q
theorem s_slL {S : SS} {ma : M D} {ml mh : M (Option Int)} {Q : List D → SS → Prop} (h : (ma S).sat fun a S1 => (ml S1).sat fun l S2 => (mh S2).sat fun u S3 => match a with
  | .lst ds => Q (cutD ds l u) S3
  | _ => False) : (mSlL ma ml mh S).sat Q := by
  unfold mSlL
  refine sat_bind (sat_mono h fun a S1 h1 => sat_bind (sat_mono h1 fun l S2 h2 => sat_bind (sat_mono h2 fun u S3 h3 => ?_)))
  cases a with
  | lst ds => exact sat_ok h3
  | _ => exact h3.elim
theorem s_rng3 {S : SS} {ms : M (List D)} {Q : List D → SS → Prop} (h : (ms S).sat fun ds S1 => ∃ i j : Int, ds = [.int i, .int j, .int (-1)] ∧ (-(2 ^ 62) ≤ i ∧ i < 2 ^ 62) ∧ (-(2 ^ 62) ≤ j ∧ j < 2 ^ 62) ∧ Q (rngD i (-1) (i - j).toNat) S1) : (mRng3 ms S).sat Q := by
  unfold mRng3
  refine sat_bind (sat_mono h fun d S1 ⟨i, j, e, h1, h2, q⟩ => ?_)
  subst e
  simp only
  rw [if_pos ⟨trivial, h1, h2.1, h2.2⟩]
  exact sat_ok q
section
variable {S : SS} {Q : Fl → SS → Prop}
theorem s_look {m : M Bool} {Q : Bool → SS → Prop} (h : (m (frz S)).sat fun b S1 => S1 = frz S ∧ Q b S) : (mLook m S).sat Q := by
  obtain ⟨b, S1, e, e2, q⟩ := h
  unfold mLook
  rw [e]
  simp only
  rw [if_pos e2]
  exact sat_ok q
theorem s_asgR {i : Nat} {m : M Ret} (h : (m S).sat fun r S1 => Nat.blt i S1.length = true ∧ Q .nx (S1.set i r.sv)) : (mAsgR i m S).sat Q := by
  unfold mAsgR
  refine sat_bind (sat_mono h fun d S1 ⟨h1, q⟩ => ?_)
  rw [if_pos (blt_lt h1)]
  exact sat_ok q
theorem s_retR {m : M Ret} (h : (m S).sat fun r S1 => match r with | .v d => Q (.rt d) S1 | .l ds => Q (.rl ds) S1) : (mRetR m S).sat Q := by
  unfold mRetR
  refine sat_bind (sat_mono h fun d S1 q => ?_)
  cases d with
  | v d => exact sat_ok q
  | l ds => exact sat_ok q
theorem s_fnR {fm : FM} {dds : List D} {ms : M (List D)} {Q : Ret → SS → Prop} (h : (ms S).sat fun ds S1 => (fm ((ds ++ dds).map .fz)).sat fun r _ => Q r S1) : (mFnR fm dds ms S).sat Q := by
  unfold mFnR
  refine sat_bind (sat_mono h fun ds S1 ⟨r, A', e, q⟩ => ?_)
  rw [e]
  exact sat_ok q
theorem s_nest {k i : Nat} {ml mi : M (List D)} {f : D → D → Option D} {mx : M D} {es0 : List D} (h0 : S[k]? = some (.ow es0)) (h : (ml S).sat fun xs S1 => ∃ ds, S1[k]? = some (.ow ds) ∧ ds.length < cap ∧ (mi (hid (S1.set k .no))).sat fun its S2 => S2 = hid (S1.set k .no) ∧
    ∃ ys S3, nestLoop i f mx its xs (S1.set k .no) = some (ys, S3) ∧ Q .nx (S3.set k (.ow (ds ++ [.lst ys])))) : (mNest k i ml mi f mx S).sat Q := by
  unfold mNest
  rw [h0]
  refine sat_bind (sat_mono h fun xs S1 ⟨ds, e1, e2, its, S2, e3, e4, ys, S3, e5, q⟩ => ?_)
  rw [e1]
  simp only
  rw [if_pos e2, e3]
  simp only
  rw [if_pos e4, e5]
  exact sat_ok q
end
end Q4


set_option Elab.async false
set_option linter.all false
set_option maxRecDepth 100000
set_option maxHeartbeats 4000000
/-! Part T: the program's errors are made: two __init__ over ValueError, each with super(). -/
namespace Q4
open PySem PySem.Spec PyProof.Rows L2 Evl

/-- the scope of an __init__ that names super() -/
structure SupScope (ps : List Str) (sc : Scope) : Prop where
  kind : sc.kind = .function
  co : sc.isCoroutine = false
  gen : sc.isGenerator = false
  nd : ps.Nodup
  par : ∀ x ∈ ps, sc.names.lookup x = some .local
  nocell : ∀ y ∈ sc.names, y.2 ≠ .cell
  free : ∀ y ∈ sc.names, y.2 = .free → y.1 = ("__class__" : Str)
  sup : sc.names.lookup ("super" : Str) = some .globalImplicit
  cls : sc.names.lookup ("__class__" : Str) = some .free

def cxS (P : Program) (w : World) (K : PySem.W.Frag) (mg : Str → Option Value) (base : Heap) (N : List Str) (qual : Str) (scope : Scope) (f : Addr) (cd : Value) (cc : Addr) (A : Around) (outer : List Env) (s : Shared) (H : Hp) (E : XK) : Cx where
  prog := P
  w := w
  K := K
  mg := mg
  base := base
  A := A.deeper (PySem.W.ksEnv qual scope s.heap.objs.size f cd cc)
  N := N
  s_0 := s
  H_0 := H
  env := PySem.W.ksEnv qual scope s.heap.objs.size f cd cc
  outer := outer
  stack := PySem.W.ksEnv qual scope s.heap.objs.size f cd cc :: outer
  ex := []
  calm := true
  fn := fun x => x != ("__class__" : Str)
  pn := []
  xe := fun e s' => wpAny (model P w) (A.deeper (PySem.W.ksEnv qual scope s.heap.objs.size f cd cc)) (leaving (PySem.W.ksEnv qual scope s.heap.objs.size f cd cc) e) (fun _ s'' => L2.CX P w outer H s E e s'') (fun e' s'' => L2.CX P w outer H s E e' s'') s'

theorem lookup_one {x y : Str} {c d : Addr} (h : ([(y, c)] : List (Str × Addr)).lookup x = some d) : x = y ∧ d = c := by
  unfold List.lookup at h
  split at h
  · rename_i e
    exact ⟨beq_iff_eq.mp e, (Option.some.inj h).symm⟩
  · cases h

theorem zip_rev_get {ps : List Str} (nd : ps.Nodup) : ∀ {us : List Value} {i : Nat} {x : Str} {u : Value}, ps[i]? = some x → us[i]? = some u → (ps.zip us).reverse.lookup x = some u := by
  induction ps with
  | nil => intro us i x u h; simp at h
  | cons p ps ih =>
    intro us i x u h1 h2
    cases us with
    | nil => simp at h2
    | cons v us =>
      rw [List.zip_cons_cons, List.reverse_cons]
      have nd' := List.nodup_cons.mp nd
      have app : ∀ (l : List (Str × Value)) (q : Str × Value), (l ++ [q]).lookup x = (match l.lookup x with | some z => some z | none => [q].lookup x) := by
        intro l q
        induction l with
        | nil => rfl
        | cons a l ih =>
          rw [List.cons_append]
          unfold List.lookup
          split
          · rfl
          · exact ih
      rw [app]
      cases i with
      | zero =>
        simp at h1 h2
        subst h1
        subst h2
        have : (ps.zip us).reverse.lookup p = none := by
          rw [List.lookup_eq_none_iff]
          intro q hq
          have hq' := List.of_mem_zip (List.mem_reverse.mp hq)
          simp
          intro e
          exact nd'.1 (e ▸ hq'.1)
        rw [this]
        simp [List.lookup]
      | succ i =>
        rw [ih nd'.2 (i := i) (by simpa using h1) (by simpa using h2)]

section
variable {P : Program} {w : World} {K : PySem.W.Frag} {mg : Str → Option Value} {base : Heap} {ps : List Str} {qual : Str} {scope : Scope} {f cc D : Addr} {cdv cl : Value} {cld : Option Addr} {csl : Array (Option Value)} {A : Around} {outer : List Env} {s : Shared} {H : Hp} {E : XK} {us : List Value} {vs : List V}
theorem inv_startS (S : SupScope ps scope) (hd : A.handled = none) (e0 : Env0 P w K mg base A outer s H) (hl : vs.length = ps.length) (r : Vals vs us) (lc : K.lookup cc = some ⟨cl, cld, .cell (some (.ref D)), csl⟩)
    {h₁ : Heap} (hn : h₁.Ns s.heap.objs.size (fun x => (ps.zip us).reverse.lookup x)) (hk : ∀ b o, s.heap.get? b = some o → h₁.get? b = some o) (t : Nat) :
    Inv (cxS P w K mg base ps qual scope f cdv cc A outer s H E) [] (vs.map some) H { s with heap := h₁, toks := t } := by
  have noA : ∀ b : Addr, b ∉ (cxS P w K mg base ps qual scope f cdv cc A outer s H E).ex := fun b z => absurd (show b ∈ ([] : List Addr) from z) (by simp)
  have KX : K.In s.heap := e0.mod.kin.keeps fun b o e => (e0.bs b o e).1
  have cb : base.get? cc = some ⟨cl, cld, .cell (some (.ref D)), csl⟩ := e0.mod.kin _ _ lc
  have look : ∀ {y : Str} {c : Addr}, (cxS P w K mg base ps qual scope f cdv cc A outer s H E).env.cells.lookup y = some c → y = "__class__" ∧ c = cc := fun {y c} h => lookup_one h
  refine ⟨⟨e0.mod, S.kind, rfl, rfl, Nat.le_refl _, fun y z c h1 h2 => (look h1).1.trans (look h2).1.symm, fun y hy => ?_, fun y c h1 h => ?_, fun _ => hd, Around.frames_deeper e0.frames, .inr ⟨rfl, rfl⟩, fun b z => absurd z (noA b), e0.bs, e0.bsz, fun b _ _ => noA b, fun b z => absurd z (noA b), e0.funs, e0.frf⟩,
    rfl, e0.bare, Un.kept hk, ⟨_, hn, fun i y v h1 h2 h3 => ?_⟩, fun y c h => ?_, e0.hok.fresh (Nat.le_refl _), fun y c h => ?_, fun p hp => absurd (show p ∈ ([] : List (Addr × Obj)) from hp) (by simp), e0.hok.kept hk, ?_⟩
  · have hy : scope.names.lookup y = some .cell ∨ scope.names.lookup y = some .free := hy
    rcases hy with hy | hy
    · exact absurd rfl (S.nocell _ (PySem.mem_of_lookup hy))
    · have e := S.free _ (PySem.mem_of_lookup hy) rfl
      have e' : y = ("__class__" : Str) := e
      subst e'
      exact ⟨cc, by simp [cxS, List.lookup]⟩
  · have e := (look h).1
    subst e
    exact absurd (show (("__class__" : Str) != ("__class__" : Str)) = true from h1) (by simp)
  · have hi : i < vs.length := by
      by_cases hi : i < vs.length
      · exact hi
      · rw [List.getElem?_eq_none (by simpa using hi)] at h2
        cases h2
    rw [List.getElem?_map] at h2
    obtain ⟨v', ha, e⟩ := Option.map_eq_some_iff.mp h2
    have e' := Option.some.inj e
    subst e'
    obtain ⟨u, hu, rv⟩ := r.get ha
    have h1 : ps[i]? = some y := h1
    exact ⟨u, rv, .inl ⟨S.par y (List.mem_of_getElem? h1), zip_rev_get S.nd h1 hu⟩⟩
  · have e := (look h).2
    subst e
    exact ⟨some (.ref D), _, hk _ _ (KX _ _ lc), rfl⟩
  · have e := (look h).2
    subst e
    exact (e0.bs _ _ cb).2
  · show (vs.map some).length = ps.length
    rw [List.length_map, hl]
end
end Q4


set_option Elab.async false
set_option linter.all false
set_option maxRecDepth 100000
set_option maxHeartbeats 4000000
/-! Part T2: super() in such an __init__, its method, the call. -/
namespace Q4
open PySem PySem.Spec PyProof.Rows L2 Evl ClX

/-- the promise of an __init__ -/
structure FnE (P : Program) (w : World) (K : PySem.W.Frag) (mg : Str → Option Value) (base : Heap) (k : Nat) (f : Addr) (fd : FuncData) (ps : List Str) (sp : Sp) : Prop where
  len : ∀ vs H Q E, sp vs H Q E → vs.length = ps.length
  run : ∀ (A : Around) (outer : List Env) (s : Shared) (H : Hp) (args : Args) (us : List Value) (vs : List V) (Q : VK) (E : XK), Room k A → A.guards = some [] → Env0 P w K mg base A outer s H → BindsTo s fd args (ps.zip us) → Vals vs us → sp vs H Q E →
    codeAny (model P w) A (.call (.ref f) args) (CR (L2.CX P w) outer P w H s Q E) s

section
variable {P : Program} {w : World} {K : PySem.W.Frag} {mg : Str → Option Value} {base : Heap} {ps : List Str} {qual name : Str} {params : Arguments} {body : List Stmt} {scope : Scope} {dV kV doc pm ct oc : Value} {an od : Option Addr} {osl : Array (Option Value)}
  {f cc D : Addr} {cdv cl : Value} {cld : Option Addr} {csl : Array (Option Value)} {sp : Sp} {k : Nat}
theorem fn_super (lk : K.lookup f = some ⟨oc, od, .func (PySem.W.ksFn name qual params body scope dV kV doc pm an cdv ct cc), osl⟩) (hcd : PySem.W.codeIn K cdv qual = true) (S : SupScope ps scope)
    (lc : K.lookup cc = some ⟨cl, cld, .cell (some (.ref D)), csl⟩) (len : ∀ vs H Q E, sp vs H Q E → vs.length = ps.length)
    (hbody : ∀ (A : Around) (outer : List Env) (s s1 : Shared) (H : Hp) (vs : List V) (Q : VK) (E : XK), Room k (A.deeper (PySem.W.ksEnv qual scope s.heap.objs.size f cdv cc)) → A.guards = some [] → sp vs H Q E →
      Inv (cxS P w K mg base ps qual scope f cdv cc A outer s H E) [] (vs.map some) H s1 →
      _root_.PySem.wpAt (model P w) (A.deeper (PySem.W.ksEnv qual scope s.heap.objs.size f cdv cc)) (.func body (PySem.W.ksEnv qual scope s.heap.objs.size f cdv cc)) (execs body (PySem.W.ksEnv qual scope s.heap.objs.size f cdv cc))
        (SP (cxS P w K mg base ps qual scope f cdv cc A outer s H E) [] { nx := fun _ H' => Q .non H', rt := Q }) (cxS P w K mg base ps qual scope f cdv cc A outer s H E).xe s1) :
    FnE P w K mg base (k + 1) f (PySem.W.ksFn name qual params body scope dV kV doc pm an cdv ct cc) ps sp := by
  refine ⟨len, fun A outer s H args us vs Q E hr hg e0 hb r hsp => ?_⟩
  have hl := len _ _ _ _ hsp
  have KX : K.In s.heap := e0.mod.kin.keeps fun b o e => (e0.bs b o e).1
  have lim : s.heap.NoLimit := e0.mod.nolimit.keeps fun b o e => (e0.bs b o e).1
  refine ks_codeAny_call_defAt (fd := PySem.W.ksFn name qual params body scope dV kV doc pm an cdv ct cc) (body := body) (binds := ps.zip us) hr.depth (KX _ _ lk) rfl lim (PySem.W.codeRec_of KX hcd) rfl hb S.nocell (fun y hy => S.par _ (List.of_mem_zip hy).1) (fun h₁ hns hk => ?_) S.co S.gen S.kind
  have I := inv_startS (f := f) (qual := qual) (cdv := cdv) (E := E) S hr.hd e0 hl r lc hns hk (s.toks + (ps.zip us).length)
  refine PySem.ks_wpAt_mono (hbody A outer s _ H vs Q E (hr.deeper _) hg hsp I) (fun fl s' hs => ?_) fun e s' hs => hs
  have fin : ∀ {σ' : L2.St} {H' : Hp} {v : V} {u : Value}, Inv (cxS P w K mg base ps qual scope f cdv cc A outer s H E) [] σ' H' s' → RelV v u → Q v H' → CE outer P w H s Q u s' :=
    fun {σ' H' v u} J rv q => ⟨v, H', J.os, J.bare, J.base, J.hok, rv, q⟩
  cases fl with
  | ret u =>
    obtain ⟨v, σ', H', J, rv, q⟩ := hs
    exact fin J rv q
  | next =>
    obtain ⟨σ', H', J, q⟩ := hs
    exact fin (v := V.non) (u := Value.none) J rfl q
  | brk =>
    obtain ⟨_, _, _, q⟩ := hs
    exact False.elim q
  | cont =>
    obtain ⟨_, _, _, q⟩ := hs
    exact False.elim q
end

section
variable {P : Program} {w : World} {K : PySem.W.Frag} {mg : Str → Option Value} {base : Heap} {ps : List Str} {qual : Str} {body : List Stmt} {scope : Scope} {A : Around} {outer : List Env} {s₀ s : Shared} {H₀ H : Hp} {E : XK} {σ : L2.St}
  {f cc D a C cda so g : Addr} {fd : FuncData} {ar : Arg} {oc ccl cl : Value} {od cdd cld : Option Addr} {osl ccs csl : Array (Option Value)} {vc : Array Value} {file : Str} {tf : Tok} {cdD cd : ClassData} {ox : Obj} {attr : Str} {p0 p1 : Pos} {whole : Sem Value}
theorem sup_base {Q : Value → Shared → Prop} (S : SupScope ps scope) (I : Inv (cxS P w K mg base ps qual scope f (.ref cda) cc A outer s₀ H₀ E) [] σ H s) (lf : K.lookup f = some ⟨oc, od, .func fd, osl⟩)
    (hp : (fd.params.posonlyargs ++ fd.params.args).head? = some ar) (ha : ps[0]? = some ar.arg) (hσ : σ[0]? = some (some (.ref a))) (hx : s.heap.get? a = some ox) (hxc : ox.cls = .ref C) (hnc : ∀ c, ox.data ≠ .cls c)
    (lcd : K.lookup cda = some ⟨ccl, cdd, .fields vc, ccs⟩) (hvs : vc[2]? = some (.str file tf)) (hfile : ((P.main.file : Str) == file) = true) (lc : K.lookup cc = some ⟨cl, cld, .cell (some (.ref D)), csl⟩)
    (hD : PySem.W.clsIn K D = some cdD) (hsub : PySem.W.mroIn K C (.ref D) = some true) (hm : mg "super" = none) (htop : (P.main.scope.names.lookup ("super" : Str)).isSome = false) (hat : (attr == ("__class__" : Str)) = false)
    (h : ∀ so s', Inv (cxS P w K mg base ps qual scope f (.ref cda) cc A outer s₀ H₀ E) [(so, PySem.W.ks_superObj D a C)] σ H s' → (∀ b o, s.heap.get? b = some o → s'.heap.get? b = some o) → Q (.ref so) s') :
    _root_.PySem.wpAt (model P w) (A.deeper (PySem.W.ksEnv qual scope s₀.heap.objs.size f (.ref cda) cc)) (.func body (PySem.W.ksEnv qual scope s₀.heap.objs.size f (.ref cda) cc))
      (attributeBase (.Call (.Name "super" p0) [] [] p1) attr (PySem.W.ksEnv qual scope s₀.heap.objs.size f (.ref cda) cc) whole) Q (cxS P w K mg base ps qual scope f (.ref cda) cc A outer s₀ H₀ E).xe s := by
  have KX : K.In s.heap := I.kIn
  obtain ⟨mb, hb1, hb2⟩ := I.mod.blt
  obtain ⟨oD, hD1, hD2⟩ : ∃ oD, s.heap.get? D = some oD ∧ oD.data = .cls cdD := by
    unfold PySem.W.clsIn at hD
    split at hD
    · rename_i c d cd' sl ho
      cases hD
      exact ⟨_, KX _ _ ho, rfl⟩
    · cases hD
  have hpar : scope.names.lookup ar.arg = some .local := S.par _ (List.mem_of_getElem? ha)
  obtain ⟨m, hn, hl⟩ := I.loc
  obtain ⟨u, ru, lk⟩ := hl 0 ar.arg (.ref a) ha hσ (.inl hpar)
  obtain rfl : u = Value.ref a := ru
  have hv : m ar.arg = some (.ref a) := by
    rcases lk with ⟨_, e⟩ | ⟨k, _⟩
    · exact e
    · have k : scope.names.lookup ar.arg = some .cell ∨ scope.names.lookup ar.arg = some .free := k
      rw [hpar] at k
      rcases k with k | k <;> cases k
  refine PySem.ks_wpAt_super_base (env := PySem.W.ksEnv qual scope s₀.heap.objs.size f (.ref cda) cc) S.sup S.cls hat rfl (KX _ _ lf) rfl hp rfl (KX _ _ lcd) rfl hvs hfile htop ?_
  refine PySem.W.ks_loadName_global S.kind S.sup (Calls.loadGlobal_builtin (env := PySem.W.ksEnv qual scope s₀.heap.objs.size f (.ref cda) cc) (I.mod.glob.keeps I.bk) hm (hb1.keeps I.bk) ((hb2 _ (by decide +kernel)).trans (show bootBuiltins "super" = some (.type "super") by decide +kernel)) ⟨rfl, ?_⟩)
  refine wpAny_loadName_free S.kind S.cls rfl ⟨_, KX _ _ lc, rfl⟩ ?_
  refine wpAny_loadName_local S.kind hpar hn hv ?_
  refine PySem.ks_wpAny_isType_cls hD1 hD2 ⟨rfl, ?_⟩
  obtain ⟨hh, g, d, t, os⟩ := s
  refine PySem.ks_wpAny_call_super hD1 hD2 hx hxc hnc (PySem.W.looks_mroIn KX hsub) (fun h' e k => ?_)
  exact h _ _ (pin_new (t' := t) I k (Nat.le_refl _) e (fun v z => nomatch z)) k
end
end Q4


set_option Elab.async false
set_option linter.all false
set_option maxRecDepth 100000
set_option maxHeartbeats 4000000
/-! Part T3: super().__init__(..), of an own class or of ValueError. -/
namespace Q4
open PySem PySem.Spec PyProof.Rows L2 Evl ClX

section
variable {P : Program} {w : World} {K : PySem.W.Frag} {mg : Str → Option Value} {base : Heap} {ps : List Str} {qual : Str} {scope : Scope} {A : Around} {outer : List Env} {s₀ s : Shared} {H₀ H : Hp} {E : XK} {σ : L2.St}
  {f cc D a C cda so g : Addr} {fd : FuncData} {ar : Arg} {oc ccl cl : Value} {od cdd cld : Option Addr} {osl ccs csl : Array (Option Value)} {vc : Array Value} {file : Str} {tf : Tok} {cdD cd : ClassData} {ox : Obj} {p0 p1 p2 p3 p4 : Pos} {args : List Expr} {rest body : List Stmt} {pl : Sem Bool}
theorem sup_stmt {Q : Flow → Shared → Prop} (S : SupScope ps scope) (I : Inv (cxS P w K mg base ps qual scope f (.ref cda) cc A outer s₀ H₀ E) [] σ H s) (lf : K.lookup f = some ⟨oc, od, .func fd, osl⟩)
    (hp : (fd.params.posonlyargs ++ fd.params.args).head? = some ar) (ha : ps[0]? = some ar.arg) (hσ : σ[0]? = some (some (.ref a))) (hx : s.heap.get? a = some ox) (hxc : ox.cls = .ref C) (hnc : ∀ c, ox.data ≠ .cls c)
    (lcd : K.lookup cda = some ⟨ccl, cdd, .fields vc, ccs⟩) (hvs : vc[2]? = some (.str file tf)) (hfile : ((P.main.file : Str) == file) = true) (lc : K.lookup cc = some ⟨cl, cld, .cell (some (.ref D)), csl⟩)
    (hD : PySem.W.clsIn K D = some cdD) (hsub : PySem.W.mroIn K C (.ref D) = some true) (hm : mg "super" = none) (htop : (P.main.scope.names.lookup ("super" : Str)).isSome = false)
    (he : eval (.Call (.Attribute (.Call (.Name "super" p0) [] [] p1) "__init__" p2) args [] p3) (PySem.W.ksEnv qual scope s₀.heap.objs.size f (.ref cda) cc) = (do
      let ov ← attributeBase (.Call (.Name "super" p0) [] [] p1) "__init__" (PySem.W.ksEnv qual scope s₀.heap.objs.size f (.ref cda) cc) (eval (.Call (.Name "super" p0) [] [] p1) (PySem.W.ksEnv qual scope s₀.heap.objs.size f (.ref cda) cc))
      standAt p2.atName
      let (f', first) ← holding [ov] (getMethod ov "__init__" pl)
      callWith p3 f' first (backTo p3 (starEach args (PySem.W.ksEnv qual scope s₀.heap.objs.size f (.ref cda) cc))) []))
    (hi : interactive (PySem.W.ksEnv qual scope s₀.heap.objs.size f (.ref cda) cc) = false)
    (hs : swapsWith (.Call (.Attribute (.Call (.Name "super" p0) [] [] p1) "__init__" p2) args [] p3) none p4.line (PySem.W.ksEnv qual scope s₀.heap.objs.size f (.ref cda) cc) = pure false)
    (h : ∀ so s1, Inv (cxS P w K mg base ps qual scope f (.ref cda) cc A outer s₀ H₀ E) [(so, PySem.W.ks_superObj D a C)] σ H s1 → (∀ b o, s.heap.get? b = some o → s1.heap.get? b = some o) →
      wpAny (model P w) (A.deeper (PySem.W.ksEnv qual scope s₀.heap.objs.size f (.ref cda) cc)) (getMethod (.ref so) "__init__" pl) (fun fx s2 =>
        wpAny (model P w) (A.deeper (PySem.W.ksEnv qual scope s₀.heap.objs.size f (.ref cda) cc)) (callWith p3 fx.1 fx.2 (backTo p3 (starEach args (PySem.W.ksEnv qual scope s₀.heap.objs.size f (.ref cda) cc))) [])
          (fun _ s3 => wpAny (model P w) (A.deeper (PySem.W.ksEnv qual scope s₀.heap.objs.size f (.ref cda) cc)) (execs rest (PySem.W.ksEnv qual scope s₀.heap.objs.size f (.ref cda) cc)) Q (cxS P w K mg base ps qual scope f (.ref cda) cc A outer s₀ H₀ E).xe s3)
          (cxS P w K mg base ps qual scope f (.ref cda) cc A outer s₀ H₀ E).xe s2) (cxS P w K mg base ps qual scope f (.ref cda) cc A outer s₀ H₀ E).xe s1) :
    _root_.PySem.wpAt (model P w) (A.deeper (PySem.W.ksEnv qual scope s₀.heap.objs.size f (.ref cda) cc)) (.func body (PySem.W.ksEnv qual scope s₀.heap.objs.size f (.ref cda) cc))
      (execs (.Expr (.Call (.Attribute (.Call (.Name "super" p0) [] [] p1) "__init__" p2) args [] p3) p4 :: rest) (PySem.W.ksEnv qual scope s₀.heap.objs.size f (.ref cda) cc)) Q (cxS P w K mg base ps qual scope f (.ref cda) cc A outer s₀ H₀ E).xe s := by
  refine PySem.ks_wpAt_execs_cons (PySem.ks_wpAt_Expr_any (PySem.ks_wpAt_MethodCall (pl := pl) (sup_base S I lf hp ha hσ hx hxc hnc lcd hvs hfile lc hD hsub hm htop (by decide) fun so s1 I1 k1 => ?_) he) hi hs)
  exact wpAny_mono (h so s1 I1 k1) (fun fx s2 h2 => wpAny_mono h2 (fun v s3 h3 => wpAt_of_wpAny h3) fun _ _ z => z) fun _ _ z => z
end

section
variable {X : Cx} {pins : List (Addr × Obj)} {σ : L2.St} {H : Hp} {s : Shared} {so D a C g : Addr} {cd : ClassData} {k : Nat} {fd : FuncData} {ps : List Str} {sp : Sp} {e : Expr} {es : List Expr} {ta : TA} {pos : Pos} {pl : Sem Bool} {Qe : Hp → Prop} {Qf : Shared → Prop} {t0 : Addr}
theorem sup_own (I : Inv X ((so, PySem.W.ks_superObj D a C) :: pins) σ H s) (ho : PySem.W.nsIn X.K cStatics "thirdparty.any" = some none) (hcl : PySem.W.clsIn X.K C = some cd)
    (hal : PySem.W.alongIn X.K "__init__" ((cd.mro.dropWhile (· != .ref D)).drop 1) = some (some (.ref g))) (tg : PySem.W.typeIn X.K (.ref g) = some (.type "function")) (fg : PySem.W.fnIn X.K g = true) (hxC : a ≠ C)
    (F : FnE X.prog X.w X.K X.mg X.base k g fd ps sp) (hr : Room k X.A) (hgd : X.A.guards = some []) (hb : Binds X.K fd ps []) (ha : PA X (e :: es) ta)
    (h : ta σ H fun vs H1 => sp (.ref a :: vs) H1 (fun _ H2 => Qe H2) (fun _ _ _ => False)) (hk : ∀ s' H2, Inv X pins σ H2 s' → Qe H2 → Qf s')
    (he : starEach (e :: es) X.env = (false, eval e X.env) :: starEach es X.env) (hpl : (backTo pos (starEach es X.env)).any (·.1) = false) :
    wpAny (model X.prog X.w) X.A (getMethod (.ref so) "__init__" pl) (fun fx s2 => wpAny (model X.prog X.w) X.A (callWith pos fx.1 fx.2 (backTo pos (starEach (e :: es) X.env)) []) (fun _ s3 => Qf s3) X.xe s2) X.xe s := by
  have KX := I.kIn
  obtain ⟨of, hof, hofc⟩ : ∃ of, s.heap.get? g = some of ∧ of.cls = .type "function" := by
    have ht' : (X.K.lookup g).map (·.cls) = some (.type "function") := tg
    cases z : X.K.lookup g with
    | none => rw [z] at ht'; cases ht'
    | some of => rw [z] at ht'; exact ⟨of, KX _ _ z, Option.some.inj ht'⟩
  have hso := pin_at I
  obtain ⟨hh, gg, d, t, os⟩ := s
  refine PySem.ks_wpAny_getMethod_super hso (PySem.W.looks_opaque KX ho) (l₀ := cd.mro) (fun A Q E s k q => wpAny_bind ((PySem.W.looks_clsIn KX hcl) A _ E s k (wpAny_pure q))) rfl KX hal hof hofc hxC (by decide) ?_
  have I2 : Inv X ((hh.objs.size, PySem.W.methodObj (.ref g) (.ref a)) :: (so, PySem.W.ks_superObj D a C) :: pins) σ H ⟨hh.push (PySem.W.methodObj (.ref g) (.ref a)), gg, d, t + 1, os⟩ :=
    pin_new (t' := t + 1) I (fun _ _ z => Heap.get?_push_of_some _ z) (Nat.le_refl _) (Heap.get?_push_size hh rfl) (fun v z => nomatch z)
  have bn : X.base.get? hh.objs.size = none := base_none I (Nat.le_refl _)
  refine callwith_cm I2 bn fg (thn (ha.run pos _ _ σ H _ I2 h) fun us s3 ⟨vs, H3, I3, r3, q3⟩ => ⟨⟨pin_at I3, I3.kIn⟩, ?_⟩) he hpl
  have r4 : Vals (V.ref a :: vs) (Value.ref a :: us) := .cons rfl r3
  have hl : ((Value.ref a :: us) ++ []).length = ps.length := by
    rw [List.append_nil, ← r4.length]
    exact F.len _ _ _ _ q3
  have hbb := hb s3 (Value.ref a :: us) I3.kIn hl
  rw [List.append_nil] at hbb
  refine wpAny_call (PySem.W.method_call (pin_at I3) (codeAny_mono (F.run X.A X.stack s3 H3 ⟨Value.ref a :: us, []⟩ (Value.ref a :: us) (V.ref a :: vs) _ _ hr hgd I3.env0 hbb r4 q3) fun r s' hq => ?_))
  cases r with
  | error er =>
    obtain ⟨_, _, _, _, _, _, _, _, _, _, _, _, z⟩ := hq
    exact z.elim
  | ok fl =>
    cases fl with
    | ret u =>
      obtain ⟨v, H', I', r', q'⟩ := I3.after hq
      exact hk _ _ (unpin (unpin I')) q'
    | next => exact False.elim hq
    | brk => exact False.elim hq
    | cont => exact False.elim hq

/-- ValueError.__init__ bound to the error, called -/
theorem sup_val (T : OexC X.K C) (I : Inv X ((so, PySem.W.ks_superObj D a C) :: pins) σ H s) (e0 : H a = some (exo a C none)) (ho : PySem.W.nsIn X.K cStatics "thirdparty.any" = some none) (hcl : PySem.W.clsIn X.K C = some cd)
    (hal : PySem.W.alongIn X.K "__init__" ((cd.mro.dropWhile (· != .ref D)).drop 1) = some (some (.builtin "ValueError.__init__"))) (hB : PySem.W.subIn X.K (.ref C) (.type "ValueError") = some true) (hxC : a ≠ C) (ha : PA X (e :: es) ta)
    (h : ta σ H fun vs H1 => vs.length ≤ 1000 ∧ H1 a = some (exo a C none) ∧ Qe H1) (hk : ∀ s' H2, Inv X pins σ H2 s' → Qe H2 → Qf s')
    (he : starEach (e :: es) X.env = (false, eval e X.env) :: starEach es X.env) (hpl : (backTo pos (starEach es X.env)).any (·.1) = false) :
    wpAny (model X.prog X.w) X.A (getMethod (.ref so) "__init__" pl) (fun fx s2 => wpAny (model X.prog X.w) X.A (callWith pos fx.1 fx.2 (backTo pos (starEach (e :: es) X.env)) []) (fun _ s3 => Qf s3) X.xe s2) X.xe s := by
  have KX := I.kIn
  have hso := pin_at I
  obtain ⟨tt, hoe⟩ := exo_at I.hok e0
  have IA : PySem.W.InstAt s.heap a _ C none := ⟨hoe, rfl, rfl, trivial⟩
  have hI : PySem.W.Looks (model X.prog X.w) s.heap (isInstance (.ref a) (.type "ValueError")) true := IA.type.andThen (PySem.W.looks_subIn KX hB)
  obtain ⟨hh, gg, d, t, os⟩ := s
  refine PySem.W.kxs_getMethod PySem.W.kxs_ValueError hso (PySem.W.looks_opaque KX ho) (l₀ := cd.mro) (fun A Q E s k q => wpAny_bind ((PySem.W.looks_clsIn KX hcl) A _ E s k (wpAny_pure q))) rfl KX hal hI hxC (by decide) ?_
  have I2 : Inv X ((hh.objs.size, PySem.W.kxs_mw "ValueError.__init__" a) :: (so, PySem.W.ks_superObj D a C) :: pins) σ H ⟨hh.push (PySem.W.kxs_mw "ValueError.__init__" a), gg, d, t + 1, os⟩ :=
    pin_new (t' := t + 1) I (fun _ _ z => Heap.get?_push_of_some _ z) (Nat.le_refl _) (Heap.get?_push_size hh rfl) (fun v z => nomatch z)
  show wpAny (model X.prog X.w) X.A (callWith pos (.ref hh.objs.size) [] (backTo pos (starEach (e :: es) X.env)) []) (fun _ s3 => Qf s3) X.xe _
  rw [he]
  refine PySem.W.kxs_callWith (i := "ValueError.__init__") (x := a) (by show (false || (backTo pos (starEach es X.env)).any (·.1)) = false; rw [hpl]; rfl) ?_
  refine Calls.evalArgs_plain ?_
  have run := ha.run pos _ _ σ H _ I2 h
  rw [he] at run
  refine thn run fun us s3 ⟨vs, H3, I3, r3, hlen, e3, q3⟩ => ⟨pin_at I3, ?_⟩
  show wpAny (model X.prog X.w) X.A (call (.ref hh.objs.size) us) (fun _ s3 => Qf s3) X.xe s3
  have hu := pin_at I3
  obtain ⟨nm, q, N, bs, bm, sn, sub, ab, col, dd, k0, k1, k2, k3, k5, hC, hbm⟩ := T.cls
  obtain ⟨t3, hoe3⟩ := exo_at I3.hok e3
  have hz : us.length ≤ sizeLine := by
    rw [← Paired.length r3, sizeLine_eq]
    omega
  have KX3 := I3.kIn
  obtain ⟨h3, g3, d3, tk3, os3⟩ := s3
  refine wpAny_call (codeAny_of_tree ?_)
  show wpAny _ X.A.in1 (callAny (.ref hh.objs.size) ⟨us, []⟩) _ _ _
  simp only [callAny]
  refine wpAny_bind (wpAny_load hu ?_)
  simp only [PySem.W.kxs_mw, show (Value.type "method-wrapper" == Value.type "method" || Value.type "method-wrapper" == Value.type "builtin_function_or_method" || Value.type "method-wrapper" == Value.type "method-wrapper") = true by decide, if_true]
  refine PySem.W.KFB.if_so (by decide) ?_
  refine wpAny_bind (PySem.W.check_bound_init F.excBase_ValueError.toExcCallFacts (KX3 _ _ hC) hoe3 rfl ?_)
  refine wpAny_bind (wpAny_pure (wpAny_pure ?_))
  refine ⟨plainId_quiet F.excBase_ValueError.init.plain _, codeAny_builtin F.excBase_ValueError.initEntry ?_⟩
  refine PySem.W.exc_init_tree (cls := .ref C) (t0 := t3) (dv := none) (c2 := .none) (c3 := .none) (b4 := .bool false) hoe3 hz fun h' kk ee tt' => ?_
  have J := I3.write (t' := tk3) (x := a) (e := a) (o := exo a C none) (by rw [e3]; exact True.intro) (.inl rfl) kk ⟨_, ee⟩ (exo_ok ee)
  have eu : upd H3 a (exo a C none) = H3 := by
    funext b
    by_cases hb : b = a
    · rw [hb, upd_same, e3]
    · rw [upd_ne hb]
  rw [eu] at J
  exact hk _ _ (unpin (unpin J)) q3
end
end Q4


set_option Elab.async false
set_option linter.all false
set_option maxRecDepth 100000
set_option maxHeartbeats 4000000
/-! Part T4: HeapError.__init__ and that of a class over it. -/
namespace Q4
open PySem PySem.Spec PyProof.Rows L2 Evl ClX

def D.okE (d : D) : Prop := d.okR ∧ d.py.shown.length + 200 ≤ cap
instance (d : D) : Decidable d.okE := by unfold D.okE; exact inferInstance

/-- the written part's word on an error class C (HC or one over HC) -/
structure ErrK (K : PySem.W.Frag) (HC C : Addr) : Prop where
  oex : OexC K C
  nw : PySem.W.findIn K (.ref C) "word" = some none
  np : PySem.W.findIn K (.ref C) "place" = some none
  subC : PySem.W.mroIn K C (.ref C) = some true
  subH : PySem.W.mroIn K C (.ref HC) = some true
  subV : PySem.W.subIn K (.ref C) (.type "ValueError") = some true
  cls : ∃ cd, PySem.W.clsIn K C = some cd ∧ PySem.W.alongIn K "__init__" ((cd.mro.dropWhile (· != .ref HC)).drop 1) = some (some (.builtin "ValueError.__init__"))

/-- the heap behind both stores -/
def finE (H : Hp) (a C dx : Addr) (x : Str) (v : V) : Hp := upd (upd (upd H dx (exd dx [("word", .str x)])) a (exo a C (some dx))) dx (exd dx [("place", v), ("word", .str x)])
def spH (K : PySem.W.Frag) (HC : Addr) : Sp := fun vs H Q _ => ∃ (a C : Addr) (x : Str) (v : V) (d : D) (G : Hp), vs = [.ref a, .str x, v] ∧ ErrK K HC C ∧ H a = some (exo a C none) ∧ Ex G H ∧ DP K G v d ∧ d.okE ∧ x.length ≤ 50 ∧
  ∀ dx, H dx = none → dx ≠ a → Q .non (finE H a C dx x v)

section
variable {P : Program} {w : World} {K : PySem.W.Frag} {mg : Str → Option Value} {base : Heap} {qual name : Str} {params : Arguments} {scope : Scope} {dV kV doc pm ct oc ccl cl : Value} {an od cdd cld : Option Addr} {osl ccs csl : Array (Option Value)}
  {f cc HC cda : Addr} {vc : Array Value} {file : Str} {tf : Tok} {cdH : ClassData} {ar : Arg} {k : Nat} {p0 p1 p2 p3 p4 q0 q1 q2 q3 q4 q5 q6 r0 r1 r2 r3 r4 r5 r6 r7 : Pos} {jj : Nat} {pl : Addr → Sem Bool}
theorem fn_heap (lk : K.lookup f = some ⟨oc, od, .func (PySem.W.ksFn name qual params
      [.Expr (.Call (.Attribute (.Call (.Name "super" p0) [] [] p1) "__init__" p2) [.BinOp (.BinOp (.Name "word" q0) .Add (.Constant (.str ": ") jj q1) q2) .Add (.Call (.Name "repr" q3) [.Name "place" q4] [] q5) q6] [] p3) p4,
        .Assign [.Attribute (.Name "self" r0) "word" r1] (.Name "word" r2) r3, .Assign [.Attribute (.Name "self" r4) "place" r5] (.Name "place" r6) r7] scope dV kV doc pm an (.ref cda) ct cc), osl⟩)
    (hcd : PySem.W.codeIn K (.ref cda) qual = true) (S : SupScope ["self", "word", "place"] scope) (hgr : scope.names.lookup ("repr" : Str) = some .globalImplicit) (har : (params.posonlyargs ++ params.args).head? = some ar) (hself : ar.arg = "self")
    (lcd : K.lookup cda = some ⟨ccl, cdd, .fields vc, ccs⟩) (hvs : vc[2]? = some (.str file tf)) (hfile : ((P.main.file : Str) == file) = true) (lc : K.lookup cc = some ⟨cl, cld, .cell (some (.ref HC)), csl⟩) (hD : PySem.W.clsIn K HC = some cdH)
    (ho : PySem.W.nsIn K cStatics "thirdparty.any" = some none) (hm : mg "super" = none) (hmr : mg "repr" = none) (htop : (P.main.scope.names.lookup ("super" : Str)).isSome = false)
    (he : ∀ L : Addr, eval (.Call (.Attribute (.Call (.Name "super" p0) [] [] p1) "__init__" p2) [.BinOp (.BinOp (.Name "word" q0) .Add (.Constant (.str ": ") jj q1) q2) .Add (.Call (.Name "repr" q3) [.Name "place" q4] [] q5) q6] [] p3) (PySem.W.ksEnv qual scope L f (.ref cda) cc) = (do
      let ov ← attributeBase (.Call (.Name "super" p0) [] [] p1) "__init__" (PySem.W.ksEnv qual scope L f (.ref cda) cc) (eval (.Call (.Name "super" p0) [] [] p1) (PySem.W.ksEnv qual scope L f (.ref cda) cc))
      standAt p2.atName
      let (f', first) ← holding [ov] (getMethod ov "__init__" (pl L))
      callWith p3 f' first (backTo p3 (starEach [.BinOp (.BinOp (.Name "word" q0) .Add (.Constant (.str ": ") jj q1) q2) .Add (.Call (.Name "repr" q3) [.Name "place" q4] [] q5) q6] (PySem.W.ksEnv qual scope L f (.ref cda) cc))) [])) :
    FnE P w K mg base 1 f (PySem.W.ksFn name qual params
      [.Expr (.Call (.Attribute (.Call (.Name "super" p0) [] [] p1) "__init__" p2) [.BinOp (.BinOp (.Name "word" q0) .Add (.Constant (.str ": ") jj q1) q2) .Add (.Call (.Name "repr" q3) [.Name "place" q4] [] q5) q6] [] p3) p4,
        .Assign [.Attribute (.Name "self" r0) "word" r1] (.Name "word" r2) r3, .Assign [.Attribute (.Name "self" r4) "place" r5] (.Name "place" r6) r7] scope dV kV doc pm an (.ref cda) ct cc) ["self", "word", "place"] (spH K HC) := by
  refine fn_super lk hcd S lc (fun vs H Q E ⟨a, C, x, v, d, G, e, _⟩ => by rw [e]; rfl) fun A outer s s1 H vs Q E hr hgd hsp I => ?_
  obtain ⟨a, C, x, v, d, G, rfl, EK, e0, gh, dv, hd, hx, hq⟩ := hsp
  obtain ⟨tt, hoe⟩ := exo_at I.hok e0
  obtain ⟨cd, hcl, hal⟩ := EK.cls
  have KX := I.kIn
  have hxC : a ≠ C := fun z => by
    subst z
    unfold PySem.W.clsIn at hcl
    split at hcl
    · rename_i c d cd' sl ho'
      have := KX _ _ ho'
      rw [hoe] at this
      cases this
    · cases hcl
  have vS : Vis (cxS P w K mg base ["self", "word", "place"] qual scope f (.ref cda) cc A outer s H E).env.scope "self" := .inl (S.par "self" (by simp))
  have vW : Vis (cxS P w K mg base ["self", "word", "place"] qual scope f (.ref cda) cc A outer s H E).env.scope "word" := .inl (S.par "word" (by simp))
  have vP : Vis (cxS P w K mg base ["self", "word", "place"] qual scope f (.ref cda) cc A outer s H E).env.scope "place" := .inl (S.par "place" (by simp))
  have dp : Dp K H v d.py := (dv.mono gh).py hd.1.1
  refine sup_stmt S I lk har (by rw [hself]; rfl) rfl hoe rfl (fun c z => nomatch z) lcd hvs hfile lc hD EK.subH hm htop (he _) (by unfold interactive; show (scope.kind == _ && _) = false; rw [S.kind]; rfl) rfl fun so s2 I2 k2 => ?_
  refine sup_val (X := cxS P w K mg base ["self", "word", "place"] qual scope f (.ref cda) cc A outer s H E) (Qe := fun H2 => H2 = H) EK.oex I2 e0 ho hcl hal EK.subV hxC
    (pa_cons (pe_op op_addX (pe_op op_addX (pe_var (i := 1) rfl vW) pe_str) (pe_callB (call_reprD (by have := hr.un; show (A.deeper _).units + 64 < cLine; omega) hgd) hgr hmr (by decide +kernel) (pa_cons (pe_var (i := 2) rfl vP) pa_nil))) pa_nil) ?_ (fun s' H2 J e => ?_) rfl rfl
  · refine ⟨.str x, rfl, .inl (.inl (.inr ⟨x, ": ", rfl, rfl, ?_, ?_⟩))⟩
    · have := hd.2
      show x.length + 2 ≤ sizeLine
      rw [sizeLine_eq]
      omega
    refine ⟨v, rfl, v, d.py, rfl, dp, hd.1.2.1, D.noDict _, hd.1.2.2.1, Nat.le_trans hd.1.2.2.2 ?_, .inl (.inl (.inr ⟨_, _, rfl, rfl, ?_, ?_⟩))⟩
    · rw [sizeLine_eq]; decide
    · have := hd.2
      rw [PySem.Str.length_append]
      show x.length + 2 + d.py.shown.length ≤ sizeLine
      have : cap ≤ sizeLine := by rw [sizeLine_eq]; decide
      omega
    · exact ⟨by simp, e0, rfl⟩
  · subst e
    refine ((pss_cons (ps_ost (pe_var (i := 0) rfl vS) (pe_var (i := 1) rfl vW)) (pss_cons (ps_ost (pe_var (i := 0) rfl vS) (pe_var (i := 2) rfl vP)) pss_nil)).run [] s' _ _ _ J ?_)
    refine ⟨.str x, rfl, .ref a, rfl, a, C, rfl, EK.oex, EK.nw, .inl ⟨e0, fun dx hn ne => ?_⟩⟩
    refine ⟨v, rfl, .ref a, rfl, a, C, rfl, EK.oex, EK.np, .inr ⟨dx, [("word", .str x)], by rw [upd_same], by rw [upd_ne ne, upd_same], by simp, ?_⟩⟩
    exact hq dx hn ne
end
end Q4


set_option Elab.async false
set_option linter.all false
set_option maxRecDepth 100000
set_option maxHeartbeats 4000000
/-! Part T5: the __init__ of a class over HeapError; such an error is made. -/
namespace Q4
open PySem PySem.Spec PyProof.Rows L2 Evl ClX

def spB (K : PySem.W.Frag) (x : Str) (C : Addr) : Sp := fun vs H Q _ => ∃ (a : Addr) (v : V) (d : D) (G : Hp), vs = [.ref a, v] ∧ H a = some (exo a C none) ∧ Ex G H ∧ DP K G v d ∧ d.okE ∧
  ∀ dx, H dx = none → dx ≠ a → Q .non (finE H a C dx x v)

section
variable {P : Program} {w : World} {K : PySem.W.Frag} {mg : Str → Option Value} {base : Heap} {qual name x : Str} {params : Arguments} {scope : Scope} {dV kV doc pm ct oc ccl cl : Value} {an od cdd cld : Option Addr} {osl ccs csl : Array (Option Value)}
  {f g cc HC C cda : Addr} {vc : Array Value} {file : Str} {tf : Tok} {cdC : ClassData} {ar : Arg} {fdH : FuncData} {p0 p1 p2 p3 p4 q0 q1 : Pos} {jj : Nat} {pl : Addr → Sem Bool}
theorem fn_bad (lk : K.lookup f = some ⟨oc, od, .func (PySem.W.ksFn name qual params
      [.Expr (.Call (.Attribute (.Call (.Name "super" p0) [] [] p1) "__init__" p2) [.Constant (.str x) jj q0, .Name "place" q1] [] p3) p4] scope dV kV doc pm an (.ref cda) ct cc), osl⟩)
    (hcd : PySem.W.codeIn K (.ref cda) qual = true) (S : SupScope ["self", "place"] scope) (har : (params.posonlyargs ++ params.args).head? = some ar) (hself : ar.arg = "self")
    (lcd : K.lookup cda = some ⟨ccl, cdd, .fields vc, ccs⟩) (hvs : vc[2]? = some (.str file tf)) (hfile : ((P.main.file : Str) == file) = true) (lc : K.lookup cc = some ⟨cl, cld, .cell (some (.ref C)), csl⟩) (hD : PySem.W.clsIn K C = some cdC)
    (EK : ErrK K HC C) (hal : PySem.W.alongIn K "__init__" ((cdC.mro.dropWhile (· != .ref C)).drop 1) = some (some (.ref g))) (tg : PySem.W.typeIn K (.ref g) = some (.type "function")) (fg : PySem.W.fnIn K g = true)
    (FH : FnE P w K mg base 1 g fdH ["self", "word", "place"] (spH K HC)) (hb : Binds K fdH ["self", "word", "place"] []) (hx : x.length ≤ 50)
    (ho : PySem.W.nsIn K cStatics "thirdparty.any" = some none) (hm : mg "super" = none) (htop : (P.main.scope.names.lookup ("super" : Str)).isSome = false)
    (he : ∀ L : Addr, eval (.Call (.Attribute (.Call (.Name "super" p0) [] [] p1) "__init__" p2) [.Constant (.str x) jj q0, .Name "place" q1] [] p3) (PySem.W.ksEnv qual scope L f (.ref cda) cc) = (do
      let ov ← attributeBase (.Call (.Name "super" p0) [] [] p1) "__init__" (PySem.W.ksEnv qual scope L f (.ref cda) cc) (eval (.Call (.Name "super" p0) [] [] p1) (PySem.W.ksEnv qual scope L f (.ref cda) cc))
      standAt p2.atName
      let (f', first) ← holding [ov] (getMethod ov "__init__" (pl L))
      callWith p3 f' first (backTo p3 (starEach [.Constant (.str x) jj q0, .Name "place" q1] (PySem.W.ksEnv qual scope L f (.ref cda) cc))) [])) :
    FnE P w K mg base 2 f (PySem.W.ksFn name qual params
      [.Expr (.Call (.Attribute (.Call (.Name "super" p0) [] [] p1) "__init__" p2) [.Constant (.str x) jj q0, .Name "place" q1] [] p3) p4] scope dV kV doc pm an (.ref cda) ct cc) ["self", "place"] (spB K x C) := by
  refine fn_super lk hcd S lc (fun vs H Q E ⟨a, v, d, G, e, _⟩ => by rw [e]; rfl) fun A outer s s1 H vs Q E hr hgd hsp I => ?_
  obtain ⟨a, v, d, G, rfl, e0, gh, dv, hd, hq⟩ := hsp
  obtain ⟨tt, hoe⟩ := exo_at I.hok e0
  have KX := I.kIn
  have hxC : a ≠ C := fun z => by
    subst z
    unfold PySem.W.clsIn at hD
    split at hD
    · rename_i c d cd' sl ho'
      have := KX _ _ ho'
      rw [hoe] at this
      cases this
    · cases hD
  have vP : Vis (cxS P w K mg base ["self", "place"] qual scope f (.ref cda) cc A outer s H E).env.scope "place" := .inl (S.par "place" (by simp))
  refine sup_stmt S I lk har (by rw [hself]; rfl) rfl hoe rfl (fun c z => nomatch z) lcd hvs hfile lc hD EK.subC hm htop (he _) (by unfold interactive; show (scope.kind == _ && _) = false; rw [S.kind]; rfl) rfl fun so s2 I2 k2 => ?_
  refine sup_own (X := cxS P w K mg base ["self", "place"] qual scope f (.ref cda) cc A outer s H E) (Qe := fun H2 => Q .non H2) I2 ho hD hal tg fg hxC FH hr hgd hb
    (pa_cons pe_str (pa_cons (pe_var (i := 1) rfl vP) pa_nil)) ?_ (fun s' H2 J q => wpAny_execs_nil ⟨_, _, J, q⟩) rfl rfl
  exact ⟨v, rfl, a, C, x, v, d, G, rfl, EK, e0, gh, dv, hd, hx, hq⟩
end

/-- C(e): what it leaves -/
def tErr (K : PySem.W.Frag) (C : Addr) (x : Str) (dvs : List V) (ta : TA) : L2.St → Hp → XK → Prop := fun σ H Q => ta σ H fun vs H1 => ∃ (v : V) (d : D) (G : Hp), vs ++ dvs = [v] ∧ Ex G H1 ∧ DP K G v d ∧ d.okE ∧
  ∀ dd, H1 dd = none → Q (.ref C) (some dd) (upd H1 dd (.xd [("place", v), ("word", .str x)]))
section
variable {X : Cx} {pins : List (Addr × Obj)} {σ : L2.St} {H1 : Hp} {s1 : Shared} {HC C fI : Addr} {fd : FuncData} {x : Str} {p pos : Pos} {e : Expr} {es : List Expr} {ta : TA} {ds us : List Value} {dvs vs : List V} {Q : XK}
theorem call_err (EK : ErrK X.K HC C) (iC : PySem.W.findIn X.K (.ref C) "__init__" = some (some (.ref fI))) (tI : PySem.W.typeIn X.K (.ref fI) = some (.type "function")) (F1 : FnE X.prog X.w X.K X.mg X.base 2 fI fd ["self", "place"] (spB X.K x C))
    (hr : Room 3 X.A) (hgd : X.A.guards = some []) (hb : Binds X.K fd ["self", "place"] ds) (hd : Vals dvs ds) (I1 : Inv X pins σ H1 s1) (r1 : Vals vs us)
    (q1 : ∃ (v : V) (d : D) (G : Hp), vs ++ dvs = [v] ∧ Ex G H1 ∧ DP X.K G v d ∧ d.okE ∧ ∀ dd, H1 dd = none → Q (.ref C) (some dd) (upd H1 dd (.xd [("place", v), ("word", .str x)]))) :
    wpAny (model X.prog X.w) X.A (call (.ref C) us) (MkP X pins σ Q) X.xe s1 := by
  obtain ⟨nm, q, N, bs, bm, sn, sub, ab, col, dd, k0, k1, k2, k3, k5, hC, hbm⟩ := EK.oex.cls
  obtain ⟨v, d, G, ev, gh, dv, hok, hq⟩ := q1
  obtain ⟨hp, g, dr, tk, os⟩ := s1
  have hsz : hp.objs.size ≤ hp.objs.size + 1 := Nat.le_succ _
  have hn : H1 (hp.objs.size + 1) = none := I1.hok.fresh hsz
  have kk : ∀ b o, hp.get? b = some o → ((hp.push (PySem.W.kdv_tup us)).push (PySem.HandSPX.excO C hp.objs.size)).get? b = some o := fun b o e => Heap.get?_push_of_some _ (Heap.get?_push_of_some _ e)
  have hget : ((hp.push (PySem.W.kdv_tup us)).push (PySem.HandSPX.excO C hp.objs.size)).get? (hp.objs.size + 1) = some (PySem.HandSPX.excO C hp.objs.size) := by heap_get
  have I2 : Inv X pins σ (upd H1 (hp.objs.size + 1) (exo (hp.objs.size + 1) C none)) ⟨(hp.push (PySem.W.kdv_tup us)).push (PySem.HandSPX.excO C hp.objs.size), g, dr, tk, os⟩ :=
    I1.laid (t' := tk) (a := hp.objs.size + 1) (o := exo (hp.objs.size + 1) C none) (h' := (hp.push (PySem.W.kdv_tup us)).push (PySem.HandSPX.excO C hp.objs.size)) kk hsz (exo_ok hget)
  have r2 : Vals (V.ref (hp.objs.size + 1) :: (vs ++ dvs)) (Value.ref (hp.objs.size + 1) :: (us ++ ds)) := .cons rfl (r1.append hd)
  have hl : (Value.ref (hp.objs.size + 1) :: us ++ ds).length = (["self", "place"] : List Str).length := by
    have e := r2.length
    rw [ev] at e
    exact e.symm
  have hus : us.length ≤ sizeLine := by
    have e := r1.length
    have e2 := congrArg List.length ev
    rw [List.length_append] at e2
    have : ([v] : List V).length = 1 := rfl
    rw [← e, sizeLine_eq]
    omega
  have hsp : spB X.K x C (V.ref (hp.objs.size + 1) :: (vs ++ dvs)) (upd H1 (hp.objs.size + 1) (exo (hp.objs.size + 1) C none)) (fun u H2 => u = .non ∧ ∃ dx, H1 dx = none ∧ dx ≠ hp.objs.size + 1 ∧ H2 = finE (upd H1 (hp.objs.size + 1) (exo (hp.objs.size + 1) C none)) (hp.objs.size + 1) C dx x v) (fun _ _ _ => False) := by
    refine ⟨_, v, d, G, by rw [ev], upd_same, gh.trans (Ex.new hn), dv, hok, fun dx h1 h2 => ⟨rfl, dx, ?_, h2, rfl⟩⟩
    rw [upd_ne h2] at h1
    exact h1
  refine wpAny_call (PySem.HandSPX.call_own F.excBase_ValueError (fun Y => PySem.HandSPX.refsVE_contains Y bm hbm) (I1.kIn _ _ hC) (PySem.W.looks_findIn I1.kIn iC) (fun self => PySem.W.bind_fn I1.kIn self tI) hus
    (codeAny_mono (F1.run _ X.stack _ _ ⟨Value.ref (hp.objs.size + 1) :: us, []⟩ (Value.ref (hp.objs.size + 1) :: (us ++ ds)) _ _ (fun _ _ _ => False) (hr.make C us []) (by first | exact hgd | (simpa [Around.under, Code.isGuard] using hgd)) (I2.env0.make C us []) (hb _ (Value.ref (hp.objs.size + 1) :: us) I2.kIn hl) r2 hsp) fun r s' hq' => ?_))
  cases r with
  | error er =>
    obtain ⟨_, _, _, _, _, _, _, _, _, _, _, _, z⟩ := hq'
    exact z.elim
  | ok fl =>
    cases fl with
    | ret u =>
      obtain ⟨v', H2, os2, bare2, un2, hok2, rv, ev', dx, hd1, hne, eH⟩ := hq'
      subst ev'
      subst eH
      obtain ⟨h2, g2, d2, t2, os'⟩ := s'
      refine ⟨rv, mk_end (raises_own EK.oex.exC EK.oex.tyC) I1 hsz kk un2 hok2 os2 bare2 (d := dx) (fs := [("place", v), ("word", .str x)]) ?_ ?_ hd1 ?_⟩
      · unfold finE
        rw [upd_ne (Ne.symm hne), upd_same]
      · unfold finE
        rw [upd_same]
      · have eq : upd (del (finE (upd H1 (hp.objs.size + 1) (exo (hp.objs.size + 1) C none)) (hp.objs.size + 1) C dx x v) (hp.objs.size + 1)) dx (.xd [("place", v), ("word", .str x)]) = upd H1 dx (.xd [("place", v), ("word", .str x)]) := by
          funext b
          by_cases hb : b = dx
          · rw [hb, upd_same, upd_same]
          · rw [upd_ne hb, upd_ne hb]
            by_cases hba : b = hp.objs.size + 1
            · rw [hba, del_same, hn]
            · rw [del_ne hba]
              unfold finE
              rw [upd_ne hb, upd_ne hba, upd_ne hb, upd_ne hba]
        rw [eq]
        exact hq dx hd1
    | next => exact False.elim hq'
    | brk => exact False.elim hq'
    | cont => exact False.elim hq'
theorem pmk_err (EK : ErrK X.K HC C) (iC : PySem.W.findIn X.K (.ref C) "__init__" = some (some (.ref fI))) (tI : PySem.W.typeIn X.K (.ref fI) = some (.type "function")) (F1 : FnE X.prog X.w X.K X.mg X.base 2 fI fd ["self", "place"] (spB X.K x C))
    (hr : Room 3 X.A) (hgd : X.A.guards = some []) (hb : Binds X.K fd ["self", "place"] ds) (hd : Vals dvs ds) (hg : Gl X x) (hm : X.mg x = some (.ref C)) (ha : PA X (e :: es) ta)
    (hdb : (x == ("__debug__" : Str)) = false := by decide) (he : starEach (e :: es) X.env = (false, eval e X.env) :: starEach es X.env := by rfl) (hpl : (backTo pos (starEach es X.env)).any (·.1) = false := by rfl) :
    PMk X (.Call (.Name x p) (e :: es) [] pos) (tErr X.K C x dvs ta) := by
  intro pins s σ H Q I h
  refine wpAny_Call_Name_kw (ld_glob I hg hm ?_ hdb)
  exact PySem.W.callWith_K (h₀ := X.base) I.ok.mod.kin EK.oex.kC (thn (ha.run pos pins s σ H _ I h) fun us s1 ⟨vs, H1, I1, r1, q1⟩ => ⟨I1.kIn, call_err EK iC tI F1 hr hgd hb hd I1 r1 q1⟩) he hpl
theorem pmk_err0 (EK : ErrK X.K HC C) (iC : PySem.W.findIn X.K (.ref C) "__init__" = some (some (.ref fI))) (tI : PySem.W.typeIn X.K (.ref fI) = some (.type "function")) (F1 : FnE X.prog X.w X.K X.mg X.base 2 fI fd ["self", "place"] (spB X.K x C))
    (hr : Room 3 X.A) (hgd : X.A.guards = some []) (hb : Binds X.K fd ["self", "place"] ds) (hd : Vals dvs ds) (hg : Gl X x) (hm : X.mg x = some (.ref C)) (hdb : (x == ("__debug__" : Str)) = false := by decide) :
    PMk X (.Call (.Name x p) [] [] pos) (tErr X.K C x dvs tNil) := by
  intro pins s σ H Q I h
  refine wpAny_Call_Name_kw (ld_glob I hg hm ?_ hdb)
  exact PySem.W.callWith_K0 I.kIn EK.oex.kC (call_err (us := []) EK iC tI F1 hr hgd hb hd I .nil h)
end
end Q4


set_option Elab.async false
set_option linter.all false
set_option maxRecDepth 100000
set_option maxHeartbeats 4000000
/-! Part T6: raise. -/
namespace Q4
open PySem PySem.Spec PyProof.Rows L2 Evl ClX

/-- the error class x: calling it makes the error -/
structure ErrG (P : Program) (w : World) (K : PySem.W.Frag) (mg : Str → Option Value) (base : Heap) (x : Str) : Prop where
  ex : ∃ (C HC fI : Addr) (fd : FuncData) (ds : List Value), mg x = some (.ref C) ∧ ErrK K HC C ∧ PySem.W.findIn K (.ref C) "__init__" = some (some (.ref fI)) ∧ PySem.W.typeIn K (.ref fI) = some (.type "function") ∧
    FnE P w K mg base 2 fI fd ["self", "place"] (spB K x C) ∧ Binds K fd ["self", "place"] [] ∧ Binds K fd ["self", "place"] ds ∧ Vals [V.non] ds

def mRaise (x : Str) (me : M D) : M Fl := fun S => (me S).bind fun d S1 => if d.okE then .err x d S1 else .bad
section
variable {X : Cx} {W : WX} {mp : List Nat} {x : Str} {e : Expr} {me : M D} {p pos pos2 : Pos}
theorem raise_out' {te : TE} {C : Addr} (hm : X.mg x = some (.ref C)) (qe : ∀ B G H σ S Q, Rel X.K B G H σ S → PoE X.K X.mg B W σ G (me S) Q → te σ H Q) {B : Bs} {G H : Hp} {σ : L2.St} {S : SS} {Z : Ends} (R : Rel X.K B G H σ S) (h : PoS X.K X.mg B W G (mRaise x me S) Z) :
    tErr X.K C x [] (tCons te tNil) σ H fun cls d H' => W cls d σ H' := by
  show te σ H fun v H1 => ∃ (v' : V) (d : D) (G' : Hp), [v] ++ [] = [v'] ∧ Ex G' H1 ∧ DP X.K G' v' d ∧ d.okE ∧ ∀ dd, H1 dd = none → W (.ref C) (some dd) σ (upd H1 dd (.xd [("place", v'), ("word", .str x)]))
  refine qe B G H σ S _ R ?_
  unfold mRaise at h
  cases hm' : me S with
  | bad => rw [hm'] at h; exact h
  | err c pl S' => rw [hm'] at h; exact fun cls dd G' H' => h cls dd σ G' H'
  | ok d S' =>
    rw [hm', Rs.bind_ok] at h
    intro v G1 H1 e1 R1 dv
    by_cases hd : d.okE
    · rw [if_pos hd] at h
      exact ⟨v, d, G1, rfl, R1.gh, dv, hd, fun dd hn => h (.ref C) dd σ G1 _ e1 (R1.loose hn) ⟨C, _, v, hm, rfl, upd_same, rfl, rfl, dv⟩⟩
    · rw [if_neg hd] at h
      exact h.elim
theorem raise_out {te : TE} {C : Addr} (hm : X.mg x = some (.ref C)) (qe : ∀ B G H σ S Q, Rel X.K B G H σ S → PoE X.K X.mg B W σ G (me S) Q → te σ H Q) {B : Bs} {G H : Hp} {σ : L2.St} {S : SS} {Z : Ends} (R : Rel X.K B G H σ S) (h : PoS X.K X.mg B W G (mRaise x me S) Z) :
    te σ H fun v H1 => ∃ (d : D) (G' : Hp), Ex G' H1 ∧ DP X.K G' v d ∧ d.okE ∧ ∀ dd, H1 dd = none → W (.ref C) (some dd) σ (upd H1 dd (.xd [("place", v), ("word", .str x)])) := by
  refine qe B G H σ S _ R ?_
  unfold mRaise at h
  cases hm' : me S with
  | bad => rw [hm'] at h; exact h
  | err c pl S' => rw [hm'] at h; exact fun cls dd G' H' => h cls dd σ G' H'
  | ok d S' =>
    rw [hm', Rs.bind_ok] at h
    intro v G1 H1 e1 R1 dv
    by_cases hd : d.okE
    · rw [if_pos hd] at h
      exact ⟨d, G1, R1.gh, dv, hd, fun dd hn => h (.ref C) dd σ G1 _ e1 (R1.loose hn) ⟨C, _, v, hm, rfl, upd_same, rfl, rfl, dv⟩⟩
    · rw [if_neg hd] at h
      exact h.elim
theorem gs_raise (EG : ErrG X.prog X.w X.K X.mg X.base x) (hr : Room 3 X.A) (hgd : X.A.guards = some []) (tk : Takes X W) (he : GE X W e me) (hc : X.calm = true := by rfl) (hg : Gl X x := by rfl) (hdb : (x == ("__debug__" : Str)) = false := by decide)
    (hst : starEach [e] X.env = (false, eval e X.env) :: starEach [] X.env := by rfl) (hpl : (backTo pos (starEach [] X.env)).any (·.1) = false := by rfl) :
    GS X W mp (.Raise (some (.Call (.Name x p) [e] [] pos)) none pos2) (mRaise x me) := by
  obtain ⟨C, HC, fI, fd, ds, hm, EK, iC, tI, F1, hb, _, _⟩ := EG.ex
  obtain ⟨te, pe, qe⟩ := he
  refine ⟨_, ps_raise hc tk (pmk_err EK iC tI F1 hr hgd hb .nil hg hm (pa_cons pe pa_nil hst) hdb hst hpl), fun B G H σ S Z nm R h => ?_⟩
  refine raise_out' hm qe R h
theorem gs_raise0 (EG : ErrG X.prog X.w X.K X.mg X.base x) (hr : Room 3 X.A) (hgd : X.A.guards = some []) (tk : Takes X W) (hc : X.calm = true := by rfl) (hg : Gl X x := by rfl) (hdb : (x == ("__debug__" : Str)) = false := by decide) :
    GS X W mp (.Raise (some (.Call (.Name x p) [] [] pos)) none pos2) (mRaise x (mC .non)) := by
  obtain ⟨C, HC, fI, fd, ds, hm, EK, iC, tI, F1, _, hb, hv⟩ := EG.ex
  refine ⟨_, ps_raise hc tk (pmk_err0 EK iC tI F1 hr hgd hb hv hg hm hdb), fun B G H σ S Z nm R h => ?_⟩
  obtain ⟨d, G', gh, dv, hd, q⟩ := raise_out (te := tC .non) (me := mC .non) hm (fun B G H σ S Q R h => h .non G H (Ex.refl _) R .non) R h
  exact ⟨.non, d, G', rfl, gh, dv, hd, q⟩
end
end Q4


set_option Elab.async false
set_option linter.all false
set_option maxRecDepth 100000
set_option maxHeartbeats 4000000
/-! Part T7: the facts of an error class, put together. -/
namespace Q4
open PySem PySem.Spec PyProof.Rows L2 Evl ClX

theorem findIn_cls {K : PySem.W.Frag} {C : Addr} {cd : ClassData} {name : Str} (h : PySem.W.clsIn K C = some cd) : PySem.W.findIn K (.ref C) name = PySem.W.alongIn K name cd.mro := by
  unfold PySem.W.clsIn at h
  unfold PySem.W.findIn
  split at h
  · rename_i c d cd' sl ho
    cases h
    simp only [ho]
  · cases h
theorem along_VE (K : PySem.W.Frag) : PySem.W.alongIn K "__init__" PySem.HandSPX.veTail = some (some (.builtin "ValueError.__init__")) := by kernel_rfl

/-- the facts that the written part gives of an error class C over HC -/
structure ErrF (K : PySem.W.Frag) (C : Addr) : Prop where
  sa : PySem.W.findIn K (.ref C) "__setattr__" = some (some (.builtin "object.__setattr__"))
  exC : PySem.W.subIn K (.ref C) (.type "BaseException") = some true
  tyC : PySem.W.typeIn K (.ref C) = some (.type "type")
  kC : PySem.W.keepIn K (.ref C) = true
  nw : PySem.W.findIn K (.ref C) "word" = some none
  np : PySem.W.findIn K (.ref C) "place" = some none
  subC : PySem.W.mroIn K C (.ref C) = some true
  subV : PySem.W.subIn K (.ref C) (.type "ValueError") = some true

section
variable {P : Program} {w : World} {K : PySem.W.Frag} {mg : Str → Option Value} {base : Heap} {HC C : Addr} {nm q x : Str} {N : Addr} {bs bm sn' : List Value} {sn : List Str} {sub : List Value} {ab : Bool} {col : Option Bool} {dd : Option Addr} {k0 k1 k2 k3 k5 : Option Value}
theorem errK_mk (l : K.lookup C = some (excClassObj nm q C N bs (.ref HC :: PySem.HandSPX.veTail) true sn sub ab col dd k0 k1 k2 k3 k5 "ValueError.__new__")) (F : ErrF K C) (hne : C ≠ HC) (subH : PySem.W.mroIn K C (.ref HC) = some true) : ErrK K HC C := by
  refine ⟨⟨⟨_, _, _, _, _, _, _, _, _, _, _, _, _, _, _, l, (by show PySem.HandSPX.refsVE PySem.HandSPX.veTail = true; decide)⟩, F.sa, F.exC, F.tyC, F.kC⟩, F.nw, F.np, F.subC, subH, F.subV, ?_⟩
  refine ⟨_, by unfold PySem.W.clsIn; rw [l] <;> rfl, ?_⟩
  have e : ((Value.ref C :: .ref HC :: PySem.HandSPX.veTail).dropWhile (· != .ref HC)).drop 1 = PySem.HandSPX.veTail := by
    have h1 : (Value.ref C != Value.ref HC) = true := by simpa using hne
    simp [List.dropWhile_cons, h1]
  show PySem.W.alongIn K "__init__" (((Value.ref C :: .ref HC :: PySem.HandSPX.veTail).dropWhile (· != .ref HC)).drop 1) = _
  rw [e]
  exact along_VE K
/-- the next __init__ behind C is HC's -/
theorem along_next {cdC cdH : ClassData} {g : Addr} (hC : PySem.W.clsIn K C = some cdC) (mC : cdC.mro = .ref C :: .ref HC :: PySem.HandSPX.veTail) (hH : PySem.W.clsIn K HC = some cdH) (mH : cdH.mro = .ref HC :: PySem.HandSPX.veTail)
    (hi : PySem.W.findIn K (.ref HC) "__init__" = some (some (.ref g))) : PySem.W.alongIn K "__init__" ((cdC.mro.dropWhile (· != .ref C)).drop 1) = some (some (.ref g)) := by
  rw [mC]
  have e : ((Value.ref C :: .ref HC :: PySem.HandSPX.veTail).dropWhile (· != .ref C)).drop 1 = .ref HC :: PySem.HandSPX.veTail := by
    simp [List.dropWhile_cons]
  rw [e, ← mH, ← findIn_cls hH]
  exact hi
/-- the binding of an __init__ whose last parameter has a default -/
theorem binds_dfl {fd : FuncData} {ps : List Str} {T : Addr} {o : Obj} {its : List Value} {n m j : Nat} (lT : K.lookup T = some o) (oT : o.data = .seq its.toArray m) (hn : n + (its.length - j) = ps.length)
    (h : ∀ us : List Value, us.length = n → ∃ k, bindArgs fd ⟨us, []⟩ = seqItems? (.ref T) >>= k ∧ k (some its.toArray) = pure (ps.zip (us ++ its.drop j))) : Binds K fd ps (its.drop j) := fun s us X hlen => by
  have l2 : us.length = n := by
    rw [List.length_append, List.length_drop] at hlen
    omega
  obtain ⟨k, e1, e2⟩ := h us l2
  refine BindsTo.of_looks fun M => ?_
  rw [e1]
  exact looks_items X lT oT (.of_pure e2)
end
end Q4


set_option Elab.async false
set_option linter.all false
set_option maxRecDepth 100000
set_option maxHeartbeats 4000000
/-! Part T8: an error class for the walk. -/
namespace Q4
open PySem PySem.Spec PyProof.Rows L2 Evl ClX

/-- HeapError -/
structure HeapG (P : Program) (w : World) (K : PySem.W.Frag) (mg : Str → Option Value) (HC hI : Addr) : Prop where
  ex : ∃ fdH : FuncData, (∀ base, FnE P w K mg base 1 hI fdH ["self", "word", "place"] (spH K HC)) ∧ Binds K fdH ["self", "word", "place"] []
  cls : ∃ cdH, PySem.W.clsIn K HC = some cdH ∧ cdH.mro = .ref HC :: PySem.HandSPX.veTail
  ini : PySem.W.findIn K (.ref HC) "__init__" = some (some (.ref hI))
  tg : PySem.W.typeIn K (.ref hI) = some (.type "function")
  fg : PySem.W.fnIn K hI = true
  ho : PySem.W.nsIn K cStatics "thirdparty.any" = some none
  hm : mg "super" = none
  htop : (P.main.scope.names.lookup ("super" : Str)).isSome = false

section
variable {P : Program} {w : World} {K : PySem.W.Frag} {mg : Str → Option Value} {nm q qual name x : Str} {params : Arguments} {scope : Scope} {kV doc pm ct oc ccl cl : Value} {an od cdd cld : Option Addr} {osl ccs csl : Array (Option Value)}
  {f hI cc HC C N cda T : Addr} {vc : Array Value} {file : Str} {tf : Tok} {ar : Arg} {oT : Obj} {mT : Nat} {p0 p1 p2 p3 p4 q0 q1 q2 q3 q4 q5 q6 r0 r1 r2 r3 r4 r5 r6 r7 : Pos} {jj : Nat} {pl : Addr → Sem Bool}
  {bs : List Value} {sn : List Str} {sub : List Value} {ab : Bool} {col : Option Bool} {dd : Option Addr} {k0 k1 k2 k3 k5 : Option Value}
theorem heapG_of (l : K.lookup HC = some (excClassObj nm q HC N bs PySem.HandSPX.veTail true sn sub ab col dd k0 k1 k2 k3 k5 "ValueError.__new__")) (i : PySem.W.findIn K (.ref HC) "__init__" = some (some (.ref f)))
    (lk : K.lookup f = some ⟨oc, od, .func (PySem.W.ksFn name qual params
      [.Expr (.Call (.Attribute (.Call (.Name "super" p0) [] [] p1) "__init__" p2) [.BinOp (.BinOp (.Name "word" q0) .Add (.Constant (.str ": ") jj q1) q2) .Add (.Call (.Name "repr" q3) [.Name "place" q4] [] q5) q6] [] p3) p4,
        .Assign [.Attribute (.Name "self" r0) "word" r1] (.Name "word" r2) r3, .Assign [.Attribute (.Name "self" r4) "place" r5] (.Name "place" r6) r7] scope (.ref T) kV doc pm an (.ref cda) ct cc), osl⟩)
    (hcd : PySem.W.codeIn K (.ref cda) qual = true) (tg : PySem.W.typeIn K (.ref f) = some (.type "function")) (fg : PySem.W.fnIn K f = true) (lcd : K.lookup cda = some ⟨ccl, cdd, .fields vc, ccs⟩) (lc : K.lookup cc = some ⟨cl, cld, .cell (some (.ref HC)), csl⟩) (lT : K.lookup T = some oT)
    (ho : PySem.W.nsIn K cStatics "thirdparty.any" = some none) (hm : mg "super" = none) (hmr : mg "repr" = none)
    (S : SupScope ["self", "word", "place"] scope) (hgr : scope.names.lookup ("repr" : Str) = some .globalImplicit) (har : (params.posonlyargs ++ params.args).head? = some ar) (hself : ar.arg = "self")
    (hvs : vc[2]? = some (.str file tf)) (hfile : ((P.main.file : Str) == file) = true) (htop : (P.main.scope.names.lookup ("super" : Str)).isSome = false) (oT' : oT.data = .seq [Value.none].toArray mT)
    (hb : ∀ us : List Value, us.length = 3 → ∃ k, bindArgs (PySem.W.ksFn name qual params
      [.Expr (.Call (.Attribute (.Call (.Name "super" p0) [] [] p1) "__init__" p2) [.BinOp (.BinOp (.Name "word" q0) .Add (.Constant (.str ": ") jj q1) q2) .Add (.Call (.Name "repr" q3) [.Name "place" q4] [] q5) q6] [] p3) p4,
        .Assign [.Attribute (.Name "self" r0) "word" r1] (.Name "word" r2) r3, .Assign [.Attribute (.Name "self" r4) "place" r5] (.Name "place" r6) r7] scope (.ref T) kV doc pm an (.ref cda) ct cc) ⟨us, []⟩ = seqItems? (.ref T) >>= k ∧ k (some [Value.none].toArray) = pure ((["self", "word", "place"] : List Str).zip us))
    (he : ∀ L : Addr, eval (.Call (.Attribute (.Call (.Name "super" p0) [] [] p1) "__init__" p2) [.BinOp (.BinOp (.Name "word" q0) .Add (.Constant (.str ": ") jj q1) q2) .Add (.Call (.Name "repr" q3) [.Name "place" q4] [] q5) q6] [] p3) (PySem.W.ksEnv qual scope L f (.ref cda) cc) = (do
      let ov ← attributeBase (.Call (.Name "super" p0) [] [] p1) "__init__" (PySem.W.ksEnv qual scope L f (.ref cda) cc) (eval (.Call (.Name "super" p0) [] [] p1) (PySem.W.ksEnv qual scope L f (.ref cda) cc))
      standAt p2.atName
      let (f', first) ← holding [ov] (getMethod ov "__init__" (pl L))
      callWith p3 f' first (backTo p3 (starEach [.BinOp (.BinOp (.Name "word" q0) .Add (.Constant (.str ": ") jj q1) q2) .Add (.Call (.Name "repr" q3) [.Name "place" q4] [] q5) q6] (PySem.W.ksEnv qual scope L f (.ref cda) cc))) [])) :
    HeapG P w K mg HC f := by
  have hcl : PySem.W.clsIn K HC = some { name := nm, bases := bs, mro := .ref HC :: PySem.HandSPX.veTail, ns := N, qualname := q, hasDict := true, slotNames := sn, subclasses := sub, abstract := ab, collection := col, hasDel := false } := by unfold PySem.W.clsIn; rw [l] <;> rfl
  refine ⟨⟨_, fun base => fn_heap lk hcd S hgr har hself lcd hvs hfile lc hcl ho hm hmr htop he, ?_⟩, ⟨_, hcl, rfl⟩, i, tg, fg, ho, hm, htop⟩
  have z := binds_dfl (ps := ["self", "word", "place"]) (its := [Value.none]) (n := 3) (j := 1) lT oT' rfl fun us hl => by
    obtain ⟨k, e1, e2⟩ := hb us hl
    exact ⟨k, e1, by rw [e2]; simp⟩
  exact z
theorem errG_of (HH : HeapG P w K mg HC hI) (a : mg x = some (.ref C)) (l : K.lookup C = some (excClassObj nm q C N bs (.ref HC :: PySem.HandSPX.veTail) true sn sub ab col dd k0 k1 k2 k3 k5 "ValueError.__new__")) (i : PySem.W.findIn K (.ref C) "__init__" = some (some (.ref f)))
    (lk : K.lookup f = some ⟨oc, od, .func (PySem.W.ksFn name qual params
      [.Expr (.Call (.Attribute (.Call (.Name "super" p0) [] [] p1) "__init__" p2) [.Constant (.str x) jj q0, .Name "place" q1] [] p3) p4] scope (.ref T) kV doc pm an (.ref cda) ct cc), osl⟩)
    (hcd : PySem.W.codeIn K (.ref cda) qual = true) (tg : PySem.W.typeIn K (.ref f) = some (.type "function")) (lcd : K.lookup cda = some ⟨ccl, cdd, .fields vc, ccs⟩) (lc : K.lookup cc = some ⟨cl, cld, .cell (some (.ref C)), csl⟩) (lT : K.lookup T = some oT)
    (f1 : PySem.W.findIn K (.ref C) "__setattr__" = some (some (.builtin "object.__setattr__"))) (f2 : PySem.W.subIn K (.ref C) (.type "BaseException") = some true) (f3 : PySem.W.typeIn K (.ref C) = some (.type "type")) (f4 : PySem.W.keepIn K (.ref C) = true)
    (f5 : PySem.W.findIn K (.ref C) "word" = some none) (f6 : PySem.W.findIn K (.ref C) "place" = some none) (f7 : PySem.W.mroIn K C (.ref C) = some true) (f8 : PySem.W.subIn K (.ref C) (.type "ValueError") = some true) (f9 : PySem.W.mroIn K C (.ref HC) = some true)
    (hne : C ≠ HC) (S : SupScope ["self", "place"] scope) (har : (params.posonlyargs ++ params.args).head? = some ar) (hself : ar.arg = "self") (hx : x.length ≤ 50)
    (hvs : vc[2]? = some (.str file tf)) (hfile : ((P.main.file : Str) == file) = true) (oT' : oT.data = .seq [Value.none].toArray mT)
    (hb2 : ∀ us : List Value, us.length = 2 → ∃ k, bindArgs (PySem.W.ksFn name qual params
      [.Expr (.Call (.Attribute (.Call (.Name "super" p0) [] [] p1) "__init__" p2) [.Constant (.str x) jj q0, .Name "place" q1] [] p3) p4] scope (.ref T) kV doc pm an (.ref cda) ct cc) ⟨us, []⟩ = seqItems? (.ref T) >>= k ∧ k (some [Value.none].toArray) = pure ((["self", "place"] : List Str).zip us))
    (hb1 : ∀ us : List Value, us.length = 1 → ∃ k, bindArgs (PySem.W.ksFn name qual params
      [.Expr (.Call (.Attribute (.Call (.Name "super" p0) [] [] p1) "__init__" p2) [.Constant (.str x) jj q0, .Name "place" q1] [] p3) p4] scope (.ref T) kV doc pm an (.ref cda) ct cc) ⟨us, []⟩ = seqItems? (.ref T) >>= k ∧ k (some [Value.none].toArray) = pure ((["self", "place"] : List Str).zip (us ++ [Value.none])))
    (he : ∀ L : Addr, eval (.Call (.Attribute (.Call (.Name "super" p0) [] [] p1) "__init__" p2) [.Constant (.str x) jj q0, .Name "place" q1] [] p3) (PySem.W.ksEnv qual scope L f (.ref cda) cc) = (do
      let ov ← attributeBase (.Call (.Name "super" p0) [] [] p1) "__init__" (PySem.W.ksEnv qual scope L f (.ref cda) cc) (eval (.Call (.Name "super" p0) [] [] p1) (PySem.W.ksEnv qual scope L f (.ref cda) cc))
      standAt p2.atName
      let (f', first) ← holding [ov] (getMethod ov "__init__" (pl L))
      callWith p3 f' first (backTo p3 (starEach [.Constant (.str x) jj q0, .Name "place" q1] (PySem.W.ksEnv qual scope L f (.ref cda) cc))) [])) (base : Heap) :
    ErrG P w K mg base x := by
  obtain ⟨fdH, FH, bH⟩ := HH.ex
  obtain ⟨cdH, hcH, mH⟩ := HH.cls
  have hcl : PySem.W.clsIn K C = some { name := nm, bases := bs, mro := .ref C :: .ref HC :: PySem.HandSPX.veTail, ns := N, qualname := q, hasDict := true, slotNames := sn, subclasses := sub, abstract := ab, collection := col, hasDel := false } := by unfold PySem.W.clsIn; rw [l] <;> rfl
  have EK := errK_mk l ⟨f1, f2, f3, f4, f5, f6, f7, f8⟩ hne f9
  have FB := fn_bad (P := P) (w := w) (mg := mg) (base := base) lk hcd S har hself lcd hvs hfile lc hcl EK (along_next hcl rfl hcH mH HH.ini) HH.tg HH.fg (FH base) bH hx HH.ho HH.hm HH.htop he
  refine ⟨⟨C, HC, f, _, [Value.none], a, EK, i, tg, FB, ?_, ?_, .cons rfl .nil⟩⟩
  · have z := binds_dfl (ps := ["self", "place"]) (its := [Value.none]) (n := 2) (j := 1) lT oT' rfl fun us hl => by
      obtain ⟨k, e1, e2⟩ := hb2 us hl
      exact ⟨k, e1, by rw [e2]; simp⟩
    exact z
  · have z := binds_dfl (ps := ["self", "place"]) (its := [Value.none]) (n := 1) (j := 0) lT oT' rfl fun us hl => by
      obtain ⟨k, e1, e2⟩ := hb1 us hl
      exact ⟨k, e1, by rw [e2]; rfl⟩
    exact z
end
end Q4


set_option Elab.async false
set_option linter.all false
set_option maxRecDepth 100000
set_option maxHeartbeats 4000000
/-! Part T9: try: .. except X as e: return (text, e.place); a function out of a written list, called. -/
namespace Q4
open PySem PySem.Spec PyProof.Rows L2 Evl ClX

/-- the class x, caught -/
structure CatG (K : PySem.W.Frag) (mg : Str → Option Value) (x : Str) : Prop where
  ex : ∃ C : Addr, mg x = some (.ref C) ∧ XfC K C ∧ PySem.W.exmOne K (.ref C) (.ref C) = some true ∧ PySem.W.findIn K (.ref C) "place" = some none
def canS (K : PySem.W.Frag) (mg : Str → Option Value) (W : WX) (mp : List Nat) (m : M Fl) : TS := fun Z σ H => ∃ B G S, NoM mp B ∧ Rel K B G H σ S ∧ PoS K mg B W G (m S) Z
theorem GSs.can {X : Cx} {W : WX} {mp : List Nat} {sts : List Stmt} {m : M Fl} (h : GSs X W mp sts m) : PSs X sts (canS X.K X.mg W mp m) := by
  obtain ⟨t, p, q⟩ := h
  exact ⟨fun pins s σ H D I ⟨B, G, S, nm, R, po⟩ => p.run pins s σ H D I (q B G H σ S D nm R po)⟩
def mTryR (x : Str) (i : Nat) (c0 : Str) (mb : M Fl) : M Fl := fun S => match mb S with
  | .err c pl S' => if c = x ∧ i < S'.length then .ok (.rt (.tup [.str c0, pl])) S' else .bad
  | r => r
section
variable {X : Cx} {W : WX} {mp : List Nat} {x n c0 : Str} {body : List Stmt} {mb : M Fl} {np pos pos' q1 q2 q3 q4 q5 : Pos} {j1 : Nat} {k1}
theorem gs_tryR (i : Nat) (CG : CatG X.K X.mg x) (nd : X.N.Nodup) (tk : Takes X W)
    (hb : ∀ (W' : WX) (pn : List (Addr × Obj)) (xe : Value → Shared → Prop), Takes (X.tr pn xe) W' → PassesOwn (model X.prog X.w) X.A X.env xe → GSs (X.tr pn xe) W' mp body mb)
    (hs : X.stack = X.env :: X.outer := by rfl) (hf : X.env.frame = some X.env.locals := by rfl) (hi : X.N[i]? = some n := by rfl) (hln : X.env.kindOf n = some .local := by rfl) (hg : Gl X x := by rfl) (hdb : (x == ("__debug__" : Str)) = false := by decide)
    (hv : Vis X.env.scope n := by first | exact Or.inl rfl | exact Or.inr (Or.inl rfl) | exact Or.inr (Or.inr rfl)) (hd : (n == ("__debug__" : Str)) = false := by decide) (hcd : (n == ("__classdict__" : Str)) = false := by decide)
    (hab : attributeBase (.Name n q3) "place" X.env (eval (.Name n q3) X.env) = eval (.Name n q3) X.env := by rfl)
    (hst : starEach [.Constant (.str c0) j1 q1, .Attribute (.Name n q3) "place" q2] X.env = (false, eval (.Constant (.str c0) j1 q1) X.env) :: starEach [.Attribute (.Name n q3) "place" q2] X.env := by rfl)
    (hst2 : starEach [.Attribute (.Name n q3) "place" q2] X.env = (false, eval (.Attribute (.Name n q3) "place" q2) X.env) :: starEach [] X.env := by rfl) :
    GS X W mp (.Try body [.ExceptHandler (some (.Name x np)) (some n) [.Return (some (.Tuple [.Constant (.str c0) j1 q1, .Attribute (.Name n q3) "place" q2] k1 q4)) q5] pos'] [] [] pos) (mTryR x i c0 mb) := by
  obtain ⟨C, hm, T, ex, hno⟩ := CG.ex
  refine ⟨_, ps_try_as (i := i) (tb := fun W' => canS X.K X.mg W' mp mb) (ts := fun a cls d => tRet (tTup (tCons (tC (.str c0)) (tCons (tXf a cls d C "place" (tVar i)) tNil)))) hs hf nd hi hln ⟨hg, hdb, .inl hm⟩ tk (fun W' pn xe tk' po => (hb W' pn xe tk' po).can)
    (fun a oe cls d pn hz hfl => pss_one (ps_ret (pe_tup (pa_cons pe_str (pa_cons (pe_xf T hno hz hfl (pe_var hi hv hd hcd) hab) pa_nil hst2) hst)))), fun B G H σ S Z nm R h => ?_⟩
  refine ⟨B, G, S, nm, R, ?_⟩
  unfold mTryR at h
  cases hmb : mb S with
  | bad => rw [hmb] at h; exact h
  | ok f S' =>
    rw [hmb] at h
    cases f with
    | _ => exact h
  | err c pl S' =>
    rw [hmb] at h
    simp only at h
    split at h
    · rename_i hc
      obtain ⟨rfl, il⟩ := hc
      intro cls dd σ' G' H' eg R' er
      obtain ⟨C', fs, v, hm', rfl, hdd, hpl, hw, dv⟩ := er
      rw [hm] at hm'
      cases hm'
      refine ⟨true, ex, fun _ a na => ?_, fun z => (Bool.false_ne_true z.symm).elim⟩
      show tTup (tCons (tC (.str c0)) (tCons (tXf a (.ref C) (some dd) C "place" (tVar i)) tNil)) (σ'.set i (some (.ref a))) H' Z.rt
      refine ⟨.ref a, List.getElem?_set_self (by rw [R'.ln]; exact il), rfl, rfl, dd, fs, v, rfl, hdd, hpl, by rw [sizeLine_eq]; exact (by decide : 2 ≤ 16777216), fun p hp => ?_⟩
      have al : Alc G' H' _ _ := .inr ⟨p, .tup [.str c0, v], hp, rfl, rfl⟩
      exact h (.ref p) σ' _ _ (eg.trans (al.ex R'.gh)) (R'.alc al) (.tup (SqT.of upd_same) (.cons (.str c0) (.cons (dv.mono (al.ex R'.gh)) .nil)))
    · exact h.elim
end

/-! ### [f, g][e](..) -/
theorem eval_call_sub (a b : Expr) (p : Pos) (args : List Expr) (keywords : List Keyword) (pos : Pos) (env : Env) : eval (.Call (.Subscript a b p) args keywords pos) env = (do
    callWith pos (← eval (.Subscript a b p) env) [] (backTo pos (starEach args env)) (backToKw pos (keywordEach keywords env))) := rfl
def mSel2 (i : Nat) (f0 f1 : FM) (ms : M (List D)) : M D := fun S => match S[i]? with
  | some (.fz (.int z)) => if z = 0 then mFn f0 [] ms S else if z = 1 then mFn f1 [] ms S else .bad
  | _ => .bad
section
variable {X : Cx} {W : WX} {k0 k1 j : Nat} {f0 f1 : FM} {x0 x1 y : Str} {p0 p1 p2 p3 p4 pos : Pos} {e : Expr} {es : List Expr} {ms : M (List D)} {n : Nat}
theorem ge_sel2 (i : Nat) (C0 : Cal4 X.prog X.w X.K X.mg X.base k0 x0 n [] f0 []) (C1 : Cal4 X.prog X.w X.K X.mg X.base k1 x1 n [] f1 []) (hr : Room j X.A) (hj0 : k0 ≤ j) (hj1 : k1 ≤ j) (hgd : X.A.guards = some []) (tk : Takes X W) (ha : GA X W (e :: es) ms)
    (hN : X.N[i]? = some y := by rfl) (hv : Vis X.env.scope y := by first | exact Or.inl rfl | exact Or.inr (Or.inl rfl) | exact Or.inr (Or.inr rfl)) (hyd : (y == ("__debug__" : Str)) = false := by decide) (hycd : (y == ("__classdict__" : Str)) = false := by decide)
    (hs : PlainIx (.Name y p4) := by exact fun _ _ => rfl) (hlen : HasLen ms n := by repeat' (first | exact ml_nil | apply ml_cons)) (hg0 : Gl X x0 := by rfl) (hg1 : Gl X x1 := by rfl)
    (hdb0 : (x0 == ("__debug__" : Str)) = false := by decide) (hdb1 : (x1 == ("__debug__" : Str)) = false := by decide)
    (hst : starEach [.Name x0 p0, .Name x1 p1] X.env = (false, eval (.Name x0 p0) X.env) :: starEach [.Name x1 p1] X.env := by rfl) (hst2 : starEach [.Name x1 p1] X.env = (false, eval (.Name x1 p1) X.env) :: starEach [] X.env := by rfl)
    (he : starEach (e :: es) X.env = (false, eval e X.env) :: starEach es X.env := by rfl) (hpl : (backTo pos (starEach es X.env)).any (·.1) = false := by rfl) :
    GE X W (.Call (.Subscript (.List [.Name x0 p0, .Name x1 p1] p2) (.Name y p4) p3) (e :: es) [] pos) (mSel2 i f0 f1 ms) := by
  obtain ⟨a0, fd0, ps0, dvs0, dus0, F0, hm0, hk0, hb0, hd0, hdd0, hn0⟩ := C0.ex
  obtain ⟨a1, fd1, ps1, dvs1, dus1, F1, hm1, hk1, hb1, hd1, hdd1, hn1⟩ := C1.ex
  obtain ⟨ta, pa, qa⟩ := ha
  have pc : PE X (.Subscript (.List [.Name x0 p0, .Name x1 p1] p2) (.Name y p4) p3) (tOp (rIx X.K) (tLst (tCons (tC (.ref a0)) (tCons (tC (.ref a1)) tNil))) (tVar i)) :=
    pe_ix ix_seq (pe_lst (pa_cons (pe_glob hg0 hm0 rfl hdb0) (pa_cons (pe_glob hg1 hm1 rfl hdb1) pa_nil hst2) hst)) (pe_var hN hv hyd hycd) hs
  refine ⟨fun σ H Q => (tOp (rIx X.K) (tLst (tCons (tC (.ref a0)) (tCons (tC (.ref a1)) tNil))) (tVar i)) σ H fun v H1 => (v = .ref a0 ∧ tCallG X.K X.mg W ps0 [] f0 dvs0 ta σ H1 Q) ∨ (v = .ref a1 ∧ tCallG X.K X.mg W ps1 [] f1 dvs1 ta σ H1 Q), ⟨fun pins s σ H Q I h => ?_⟩, fun B G H σ S Q R h => ?_⟩
  · rw [eval_call_sub]
    refine wpAny_bind (thn (pc.run pins s σ H _ I h) fun v s1 ⟨x, H1, I1, r1, q1⟩ => ?_)
    rcases q1 with ⟨rfl, q⟩ | ⟨rfl, q⟩
    · obtain rfl : v = Value.ref a0 := r1
      exact PySem.W.callWith_K (h₀ := X.base) I1.ok.mod.kin hk0 (thn (pa.run pos pins s1 σ H1 _ I1 q) fun us s2 ⟨vs, H2, I2, r, q1, q2⟩ => ⟨I2.kIn, run_g F0 (hr.mono hj0) hgd hb0 hd0 tk I2 r q1 q2⟩) he hpl
    · obtain rfl : v = Value.ref a1 := r1
      exact PySem.W.callWith_K (h₀ := X.base) I1.ok.mod.kin hk1 (thn (pa.run pos pins s1 σ H1 _ I1 q) fun us s2 ⟨vs, H2, I2, r, q1, q2⟩ => ⟨I2.kIn, run_g F1 (hr.mono hj1) hgd hb1 hd1 tk I2 r q1 q2⟩) he hpl
  · have call : ∀ {k : Nat} {f : Addr} {fd : FuncData} {ps : List Str} {dvs : List V} {fm : FM} {H1 : Hp} (F : FnG X.prog X.w X.K X.mg X.base k f fd ps [] fm) (hdd : ∀ G, DPs X.K G dvs []) (hn : n + dvs.length = ps.length), Rel X.K B G H1 σ S → PoE X.K X.mg B W σ G (mFn fm [] ms S) Q → tCallG X.K X.mg W ps [] fm dvs ta σ H1 Q := fun {k f fd ps dvs fm H1} F hdd hn R1 h => by
      refine qa B G H1 σ S _ R1 ?_
      unfold mFn at h
      cases hms : ms S with
      | bad => rw [hms] at h; exact h
      | err c pl S' => rw [hms] at h; exact h
      | ok ds S' =>
        rw [hms, Rs.bind_ok] at h
        intro vs G1 H1 e1 R1 dv
        have dv2 : DPs X.K G1 (vs ++ dvs) (ds ++ []) := dv.append (hdd G1)
        refine ⟨by rw [List.length_append, dv.length, hlen S ds S' hms]; exact hn, G1, _, R1.gh, argOk_fz dv2, ?_⟩
        cases hf : fm ((ds ++ []).map .fz) with
        | bad => rw [hf] at h; exact h.elim
        | err c pl A' =>
          rw [hf] at h
          exact fun cls dd G' H' po er => h cls dd G' H' (e1.trans po.gg) (R1.post0 po) er
        | ok r A' =>
          rw [hf] at h
          cases r with
          | v d => exact fun v G' H' po dv => h v G' H' (e1.trans po.gg) (R1.post0 po) dv
          | l us =>
            intro p ws G' H' po hp dw gp bp
            have R' := R1.post0 po
            have ex : Ex G' (upd G' p (.lst ws)) := Ex.new gp
            refine h _ _ H' ((e1.trans po.gg).trans ex) (R'.freeze hp gp (.inl (R1.noB bp)) fun i xs hi hσ => ?_) (.lst upd_same (dw.mono ex))
            exact R1.noS bp i xs hi hσ
    unfold mSel2 at h
    split at h
    · rename_i z hz
      obtain ⟨v, hv1, dv⟩ := R.sl i _ hz
      cases dv
      refine ⟨by rw [sizeLine_eq]; exact (by decide : 2 ≤ 16777216), fun l hl => ?_⟩
      have R1 := R.loose (o := .lst [.ref a0, .ref a1]) hl
      refine ⟨_, hv1, .inl ?_⟩
      split at h
      · rename_i e0
        subst e0
        exact ⟨l, _, 0, .ref a0, rfl, rfl, SqL.of upd_same, rfl, .inl ⟨rfl, call F0 hdd0 hn0 R1 h⟩⟩
      · split at h
        · rename_i e1
          subst e1
          exact ⟨l, _, 1, .ref a1, rfl, rfl, SqL.of upd_same, rfl, .inr ⟨rfl, call F1 hdd1 hn1 R1 h⟩⟩
        · exact h.elim
    · exact h.elim
end
/-! ### an error class, HeapError's facts last -/
section
variable {P : Program} {w : World} {K : PySem.W.Frag} {mg : Str → Option Value} {nm q qual name x : Str} {params : Arguments} {scope : Scope} {kV doc pm ct oc ccl cl : Value} {an od cdd cld : Option Addr} {osl ccs csl : Array (Option Value)}
  {f hI cc HC C N cda T : Addr} {vc : Array Value} {file : Str} {tf : Tok} {ar : Arg} {oT : Obj} {mT : Nat} {p0 p1 p2 p3 p4 q0 q1 q2 q3 q4 q5 q6 r0 r1 r2 r3 r4 r5 r6 r7 : Pos} {jj : Nat} {pl : Addr → Sem Bool}
  {bs : List Value} {sn : List Str} {sub : List Value} {ab : Bool} {col : Option Bool} {dd : Option Addr} {k0 k1 k2 k3 k5 : Option Value}
theorem errG_off (a : mg x = some (.ref C)) (l : K.lookup C = some (excClassObj nm q C N bs (.ref HC :: PySem.HandSPX.veTail) true sn sub ab col dd k0 k1 k2 k3 k5 "ValueError.__new__")) (i : PySem.W.findIn K (.ref C) "__init__" = some (some (.ref f)))
    (lk : K.lookup f = some ⟨oc, od, .func (PySem.W.ksFn name qual params
      [.Expr (.Call (.Attribute (.Call (.Name "super" p0) [] [] p1) "__init__" p2) [.Constant (.str x) jj q0, .Name "place" q1] [] p3) p4] scope (.ref T) kV doc pm an (.ref cda) ct cc), osl⟩)
    (hcd : PySem.W.codeIn K (.ref cda) qual = true) (tg : PySem.W.typeIn K (.ref f) = some (.type "function")) (lcd : K.lookup cda = some ⟨ccl, cdd, .fields vc, ccs⟩) (lc : K.lookup cc = some ⟨cl, cld, .cell (some (.ref C)), csl⟩) (lT : K.lookup T = some oT)
    (f1 : PySem.W.findIn K (.ref C) "__setattr__" = some (some (.builtin "object.__setattr__"))) (f2 : PySem.W.subIn K (.ref C) (.type "BaseException") = some true) (f3 : PySem.W.typeIn K (.ref C) = some (.type "type")) (f4 : PySem.W.keepIn K (.ref C) = true)
    (f5 : PySem.W.findIn K (.ref C) "word" = some none) (f6 : PySem.W.findIn K (.ref C) "place" = some none) (f7 : PySem.W.mroIn K C (.ref C) = some true) (f8 : PySem.W.subIn K (.ref C) (.type "ValueError") = some true) (f9 : PySem.W.mroIn K C (.ref HC) = some true)
    (hne : C ≠ HC) (S : SupScope ["self", "place"] scope) (har : (params.posonlyargs ++ params.args).head? = some ar) (hself : ar.arg = "self") (hx : x.length ≤ 50)
    (hvs : vc[2]? = some (.str file tf)) (hfile : ((P.main.file : Str) == file) = true) (oT' : oT.data = .seq [Value.none].toArray mT)
    (hb2 : ∀ us : List Value, us.length = 2 → ∃ k, bindArgs (PySem.W.ksFn name qual params
      [.Expr (.Call (.Attribute (.Call (.Name "super" p0) [] [] p1) "__init__" p2) [.Constant (.str x) jj q0, .Name "place" q1] [] p3) p4] scope (.ref T) kV doc pm an (.ref cda) ct cc) ⟨us, []⟩ = seqItems? (.ref T) >>= k ∧ k (some [Value.none].toArray) = pure ((["self", "place"] : List Str).zip us))
    (hb1 : ∀ us : List Value, us.length = 1 → ∃ k, bindArgs (PySem.W.ksFn name qual params
      [.Expr (.Call (.Attribute (.Call (.Name "super" p0) [] [] p1) "__init__" p2) [.Constant (.str x) jj q0, .Name "place" q1] [] p3) p4] scope (.ref T) kV doc pm an (.ref cda) ct cc) ⟨us, []⟩ = seqItems? (.ref T) >>= k ∧ k (some [Value.none].toArray) = pure ((["self", "place"] : List Str).zip (us ++ [Value.none])))
    (he : ∀ L : Addr, eval (.Call (.Attribute (.Call (.Name "super" p0) [] [] p1) "__init__" p2) [.Constant (.str x) jj q0, .Name "place" q1] [] p3) (PySem.W.ksEnv qual scope L f (.ref cda) cc) = (do
      let ov ← attributeBase (.Call (.Name "super" p0) [] [] p1) "__init__" (PySem.W.ksEnv qual scope L f (.ref cda) cc) (eval (.Call (.Name "super" p0) [] [] p1) (PySem.W.ksEnv qual scope L f (.ref cda) cc))
      standAt p2.atName
      let (f', first) ← holding [ov] (getMethod ov "__init__" (pl L))
      callWith p3 f' first (backTo p3 (starEach [.Constant (.str x) jj q0, .Name "place" q1] (PySem.W.ksEnv qual scope L f (.ref cda) cc))) [])) : HeapG P w K mg HC hI → ∀ base : Heap, ErrG P w K mg base x :=
  fun HH base => errG_of HH a l i lk hcd tg lcd lc lT f1 f2 f3 f4 f5 f6 f7 f8 f9 hne S har hself hx hvs hfile oT' hb2 hb1 he base
end
theorem catG_of {K : PySem.W.Frag} {mg : Str → Option Value} {x nm q : Str} {C N : Addr} {bs bm : List Value} {sn : List Str} {sub : List Value} {ab : Bool} {col : Option Bool} {dd : Option Addr} {k0 k1 k2 k3 k5 : Option Value}
    (a : mg x = some (.ref C)) (l : K.lookup C = some (excClassObj nm q C N bs bm true sn sub ab col dd k0 k1 k2 k3 k5 "ValueError.__new__")) (g : PySem.W.findIn K (.ref C) "__getattribute__" = some (some (.builtin "BaseException.__getattribute__"))) (h : PySem.W.findIn K (.ref C) "__getattr__" = some none)
    (b : PySem.W.subIn K (.ref C) (.type "BaseException") = some true) (t : PySem.W.typeIn K (.ref C) = some (.type "type")) (s : PySem.W.subIn K (.ref C) (.ref C) = some true) (p : PySem.W.findIn K (.ref C) "place" = some none) : CatG K mg x := by
  have hcl : PySem.W.clsIn K C = some { name := nm, bases := bs, mro := .ref C :: bm, ns := N, qualname := q, hasDict := true, slotNames := sn, subclasses := sub, abstract := ab, collection := col, hasDel := false } := by unfold PySem.W.clsIn; rw [l] <;> rfl
  refine ⟨⟨C, a, ⟨g, h, b, ?_⟩, ?_, p⟩⟩
  · unfold PySem.W.hasDictIn
    rw [hcl]
    rfl
  · unfold PySem.W.exmOne PySem.W.kitCls
    simp [b, hcl, t, s]
/-! ### what they come to -/
theorem s_sel0 {S : SS} {i : Nat} {f0 f1 : FM} {ms : M (List D)} {Q : D → SS → Prop} (h0 : S[i]? = some (.fz (.int 0))) (h : (mFn f0 [] ms S).sat Q) : (mSel2 i f0 f1 ms S).sat Q := by
  unfold mSel2
  rw [h0]
  exact h
theorem s_sel1 {S : SS} {i : Nat} {f0 f1 : FM} {ms : M (List D)} {Q : D → SS → Prop} (h0 : S[i]? = some (.fz (.int 1))) (h : (mFn f1 [] ms S).sat Q) : (mSel2 i f0 f1 ms S).sat Q := by
  unfold mSel2
  rw [h0]
  exact h
theorem s_try {S : SS} {x c0 : Str} {i : Nat} {mb : M Fl} {Q : Fl → SS → Prop} (h : (mb S).sat Q) : (mTryR x i c0 mb S).sat Q := by
  obtain ⟨f, S', e, q⟩ := h
  unfold mTryR
  rw [e]
  exact sat_ok q
theorem s_caught {S S' : SS} {x c0 : Str} {i : Nat} {mb : M Fl} {pl : D} {Q : Fl → SS → Prop} (h : mb S = .err x pl S') (hi : i < S'.length) (q : Q (.rt (.tup [.str c0, pl])) S') : (mTryR x i c0 mb S).sat Q := by
  unfold mTryR
  rw [h]
  simp only
  rw [if_pos ⟨trivial, hi⟩]
  exact sat_ok q
end Q4


set_option Elab.async false
set_option linter.all false
set_option maxRecDepth 100000
set_option maxHeartbeats 4000000
/-! Part N3: comprehensions with two generators; sorted of ints; try with what is told alone. -/
namespace Q4
open PySem PySem.Spec PyProof.Rows L2 Evl

/-! ### the turns of a comprehension at a list that stands -/
section
variable {X : Cx} {is : List Nat} {g : GF} {mt : M Bool} {me : M D}
theorem comp_turns {vs : List Nat} (his : ∀ i ∈ is, i ∈ vs) {B : Bs} {G1 H1 : Hp} {σ : L2.St} {S1 : SS} {ds acc0 : List D} {J : It} {p : Addr} {ws0 : List V} {Nx : Hp → Prop} (R1 : Rel X.K B G1 H1 σ S1) (y : Yld X.K J ds G1) (hown : okOwn vs S1 = true)
    (hp : H1 p = some (.lst ws0)) (dws0 : DPs X.K G1 ws0 acc0) (gp : G1 p = none) (bp : B.H p = none) (bmp : ∀ m ∈ B.M, m.2 ≠ p) (nsp : ∀ (j : Nat) (xs : List D), S1[j]? = some (SV.ow xs) → σ[j]? ≠ some (some (V.ref p)))
    {accF : List D} {SF : SS} (hF : compLoop vs g mt me ds acc0 S1 = .ok accF SF)
    (fin : ∀ G' H' ws', Ex G1 G' → Rel X.K B G' H' σ SF → okOwn vs SF = true → H' p = some (.lst ws') → DPs X.K G' ws' accF → G' p = none → (∀ (j : Nat) (xs : List D), SF[j]? = some (SV.ow xs) → σ[j]? ≠ some (some (V.ref p))) → Nx H') :
    ∃ W : Nat → Nat → Hp → Prop, (∃ m, W 0 m H1) ∧ ∀ i m H, W i m H →
      (J.stop i H ∧ Nx H) ∨ (J.go i H ∧ ∃ N1 : Hp → Prop, (∀ H', N1 H' → ∃ m', m' < m ∧ W (i + 1) m' H') ∧ ∀ x H', J.yld i H x H' → (canG X.K is g) x (wipe σ vs) H' fun σ2 H2 => wipe σ2 vs = wipe σ vs ∧ (canT X.K X.mg W0 mt) σ2 H2 fun b H3 =>
        if b = true then (canE X.K X.mg W0 me) σ2 H3 fun y H4 => ∃ acc, H4 p = some (.lst acc) ∧ acc.length < sizeLine ∧ N1 (upd H4 p (.lst (acc ++ [y]))) else N1 H3) := by
  refine ⟨fun i m H' => ∃ G' S' acc ws, m = ds.length - i ∧ i ≤ ds.length ∧ Ex G1 G' ∧ Rel X.K B G' H' σ S' ∧ okOwn vs S' = true ∧ H' p = some (.lst ws) ∧ DPs X.K G' ws acc ∧ G' p = none ∧
    compLoop vs g mt me (ds.drop i) acc S' = .ok accF SF ∧ (∀ (j : Nat) (xs : List D), S'[j]? = some (SV.ow xs) → σ[j]? ≠ some (some (V.ref p))), ⟨ds.length, G1, S1, acc0, ws0, by simp, Nat.zero_le _, Ex.refl _, R1, hown, hp, dws0, gp, by rw [List.drop_zero]; exact hF, nsp⟩, ?_⟩
  rintro i m H' ⟨G', S', acc, ws, rfl, hi, eg, R', ok', hws, dws, gD, hres, nsD⟩
  by_cases hlt : i < ds.length
  · have hd : ds[i]? = some ds[i] := List.getElem?_eq_getElem hlt
    rw [List.drop_eq_getElem_cons hlt] at hres
    obtain ⟨_, yq⟩ := y i G' H' eg R'.gh
    obtain ⟨ygo, yit⟩ := yq _ hd
    refine .inr ⟨ygo, fun H'' => ∃ G' S' acc ws, Ex G1 G' ∧ Rel X.K B G' H'' σ S' ∧ okOwn vs S' = true ∧ H'' p = some (.lst ws) ∧ DPs X.K G' ws acc ∧ G' p = none ∧
      compLoop vs g mt me (ds.drop (i + 1)) acc S' = .ok accF SF ∧ (∀ (j : Nat) (xs : List D), S'[j]? = some (SV.ow xs) → σ[j]? ≠ some (some (V.ref p))), fun H'' n => ?_, fun x H2 hy => ?_⟩
    · obtain ⟨G', S', acc, ws, k1, k2, k3, k4, k5, k6, k7, k8⟩ := n
      exact ⟨ds.length - (i + 1), by omega, G', S', acc, ws, rfl, hlt, k1, k2, k3, k4, k5, k6, k7, k8⟩
    · obtain ⟨G2, al, dx⟩ := yit x H2 hy
      have eg2 := al.ex R'.gh
      have R2 := R'.alc al
      have hws2 : H2 p = some (.lst ws) ∧ G2 p = none := by
        rcases al with ⟨rfl, rfl⟩ | ⟨q, o, hq, rfl, rfl⟩
        · exact ⟨hws, gD⟩
        · have : p ≠ q := ne_of_none hws hq
          rw [upd_ne this, upd_ne this]
          exact ⟨hws, gD⟩
      rw [compLoop_cons] at hres
      cases hg : g ds[i] (wS vs S') with
      | none => rw [hg] at hres; cases hres
      | some S2 =>
        rw [hg] at hres
        refine ⟨loc G2 H2 (wipe σ vs) (wS vs S'), G2, wS vs S', S2, ds[i], fun m hm z => ?_, R2.inn vs, dx, hg, fun σ2 R3 hw => ?_⟩
        · obtain ⟨j, l⟩ := m
          obtain ⟨⟨xs, h1⟩, h2⟩ := mem_locM.mp hm
          rw [wS_get, if_pos (his _ z)] at h1
          split at h1 <;> cases h1
        have hw' : wipe σ2 vs = wipe σ vs := (hw vs his).trans (wipe_wipe σ vs)
        refine ⟨hw', loc G2 H2 (wipe σ vs) (wS vs S'), G2, S2, R3, ?_⟩
        have next : ∀ {G4 H4 : Hp} {S4 : SS}, Ex G2 G4 → Rel X.K (loc G2 H2 (wipe σ vs) (wS vs S')) G4 H4 σ2 S4 → Rel X.K B G4 H4 σ (unS vs S' S4) ∧ okOwn vs (unS vs S' S4) = true ∧ H4 p = some (.lst ws) ∧ G4 p = none ∧
            (∀ (j : Nat) (xs : List D), (unS vs S' S4)[j]? = some (SV.ow xs) → σ[j]? ≠ some (some (V.ref p))) := fun {G4 H4 S4} e4 R4 => by
          obtain ⟨k1, k2⟩ := loc_keeps R2 R4 hws2.1 hws2.2 nsD
          have Ro := R2.out ok' R4 hw'
          have ln4 : S4.length = S'.length := by
            have q1 := R4.ln
            have q2 := congrArg List.length hw'
            rw [wipe_length, wipe_length] at q2
            rw [← q1, q2, R2.ln]
          refine ⟨Ro, okOwn_un ok' ln4, k1, k2, fun j xs hj hσ => ?_⟩
          rw [unS_get] at hj
          by_cases ej : j ∈ vs
          · rw [if_pos ej] at hj
            split at hj
            · obtain ⟨z1, z2⟩ := okOwn_at ok' ej
              have q : S'[j]? = some (S'.getD j .no) := by rw [List.getD_eq_getElem?_getD, List.getElem?_eq_getElem z1]; rfl
              exact z2 xs (by rw [q]; exact hj)
            · cases hj
          · rw [if_neg ej] at hj
            obtain ⟨l2, us2, p1, p2, p3, p4, p5⟩ := R4.sl j _ hj
            have eσ : σ2[j]? = σ[j]? := by
              have e : (wipe σ2 vs)[j]? = (wipe σ vs)[j]? := by rw [hw']
              rw [wipe_get, wipe_get, if_neg ej, if_neg ej] at e
              exact e
            rw [eσ, hσ] at p1
            cases p1
            rcases p5 with z | z
            · have z' : H2 p = none := z
              rw [hws2.1] at z'
              cases z'
            · obtain ⟨⟨zs, z1⟩, z2⟩ := mem_locM.mp z
              rw [wS_get, if_neg ej] at z1
              exact nsD j zs z1 hσ
        simp only at hres
        cases ht : mt S2 with
        | bad => rw [ht] at hres; cases hres
        | err c pl S' => rw [ht] at hres; cases hres
        | ok b S3 =>
          rw [ht] at hres
          intro G3 H3 e3 R4
          cases b with
          | false =>
            refine iteF ?_
            obtain ⟨n1, n2, n3, n4, n5⟩ := next e3 R4
            exact ⟨G3, _, acc, ws, (eg.trans eg2).trans e3, n1, n2, n3, dws.mono (eg2.trans e3), n4, hres, n5⟩
          | true =>
            refine iteT ⟨loc G2 H2 (wipe σ vs) (wS vs S'), G3, S3, R4, ?_⟩
            have hres' : ((noE (me S3)).bind fun y S3 => if acc.length < cap then compLoop vs g mt me (ds.drop (i + 1)) (acc ++ [y]) (unS vs S' S3) else .bad) = .ok accF SF := hres
            cases he : me S3 with
            | bad => rw [he] at hres'; cases hres'
            | err c pl S' => rw [he] at hres'; cases hres'
            | ok yd S4 =>
              rw [he] at hres'
              intro v G4 H4 e4 R5 dv
              have hres2 : (if acc.length < cap then compLoop vs g mt me (ds.drop (i + 1)) (acc ++ [yd]) (unS vs S' S4) else .bad) = .ok accF SF := hres'
              by_cases hz : acc.length < cap
              · rw [if_pos hz] at hres2
                obtain ⟨n1, n2, n3, n4, n5⟩ := next (e3.trans e4) R5
                refine ⟨ws, n3, by rw [dws.length]; exact cap_lt hz, G4, _, acc ++ [yd], ws ++ [v], ((eg.trans eg2).trans e3).trans e4, n1.looseUpd n4 bp bmp n5, n2, upd_same, (dws.mono (eg2.trans (e3.trans e4))).append (.one dv), n4, hres2, n5⟩
              · rw [if_neg hz] at hres2
                cases hres2
  · have ei : i = ds.length := by omega
    subst ei
    rw [List.drop_length] at hres
    have hres' : Rs.ok acc S' = Rs.ok accF SF := hres
    cases hres'
    exact .inl ⟨(y _ G' H' eg R'.gh).1 (Nat.le_refl _), fin G' H' ws eg R' ok' hws dws gD nsD⟩
end

/-! ### two generators -/
def locD (G H : Hp) (σ : L2.St) (S : SS) (p : Addr) : Bs := ⟨G, fun a => if a = p then none else H a, locM σ S⟩
section
variable {K : PySem.W.Frag} {B : Bs} {G H G2 H2 : Hp} {σ σ2 : L2.St} {S S3 : SS} {vs : List Nat} {p : Addr}
theorem Rel.toD {σ0 : L2.St} {S0 : SS} (R : Rel K (loc G H σ0 S0) G2 H2 σ S) : Rel K (locD G H σ0 S0 p) G2 H2 σ S := by
  refine ⟨R.gh, R.gg, fun a h => ?_, fun a o h hm => ?_, R.ln, fun i s h => ?_, R.ds, R.mm, R.mh⟩
  · rcases R.fr a h with z | z | z
    · exact .inl z
    · refine .inr (.inl ?_)
      have z' : H a = none := z
      show (if a = p then none else H a) = none
      split
      · rfl
      · exact z'
    · exact .inr (.inr z)
  · have h' : (if a = p then none else H a) = some o := h
    split at h'
    · cases h'
    · exact R.kp a o h' hm
  · cases s with
    | no => trivial
    | fz d => exact R.sl i _ h
    | ow ds =>
      obtain ⟨l, ws, q1, q2, q3, q4, q5⟩ := R.sl i _ h
      refine ⟨l, ws, q1, q2, q3, q4, ?_⟩
      rcases q5 with z | z
      · refine .inl ?_
        have z' : H l = none := z
        show (if l = p then none else H l) = none
        split
        · rfl
        · exact z'
      · exact .inr z
theorem Rel.outD (R : Rel K B G H σ S) (bp : B.H p = none) (bmp : ∀ m ∈ B.M, m.2 ≠ p) (ok : okOwn vs S = true) (R2 : Rel K (locD G H (wipe σ vs) (wS vs S) p) G2 H2 σ2 S3) (hw : wipe σ2 vs = wipe σ vs) : Rel K B G2 H2 σ (unS vs S S3) := by
  have inM : ∀ {i : Nat} {l : Addr}, (i, l) ∈ locM (wipe σ vs) (wS vs S) → i ∉ vs ∧ (∃ ds, S[i]? = some (.ow ds)) ∧ σ[i]? = some (some (.ref l)) := fun {i l} hm => by
    obtain ⟨⟨ds, h1⟩, h2⟩ := mem_locM.mp hm
    have hi' : i ∉ vs := fun e => by rw [wS_get, if_pos e] at h1; split at h1 <;> cases h1
    rw [wS_get, if_neg hi'] at h1
    rw [wipe_get, if_neg hi'] at h2
    exact ⟨hi', ⟨ds, h1⟩, h2⟩
  have slot : ∀ {i : Nat} {l : Addr} {ds : List D}, S[i]? = some (.ow ds) → σ[i]? = some (some (.ref l)) → (B.H l = none ∨ (i, l) ∈ B.M) := fun {i l ds} h1 h2 => by
    obtain ⟨l', ws, q1, _, _, _, q5⟩ := R.sl i _ h1
    rw [h2] at q1
    cases q1
    exact q5
  have noB : ∀ {a : Addr}, (if a = p then none else H a) = none → B.H a = none := fun {a} z => by
    split at z
    · rename_i e; rw [e]; exact bp
    · exact R.noB z
  have keep : ∀ {a : Addr} {o : HO}, a ≠ p → H a = some o → (∀ m ∈ locM (wipe σ vs) (wS vs S), m.2 ≠ a) → H2 a = some o := fun {a o} e h hm => R2.kp a o (by show (if a = p then none else H a) = some o; rw [if_neg e]; exact h) hm
  have eqσ : ∀ {i : Nat}, i ∉ vs → σ2[i]? = σ[i]? := fun {i} h => by
    have e : (wipe σ2 vs)[i]? = (wipe σ vs)[i]? := by rw [hw]
    rw [wipe_get, wipe_get, if_neg h, if_neg h] at e
    exact e
  have len3 : S3.length = S.length := by
    have h1 := R2.ln
    have h2 := congrArg List.length hw
    rw [wipe_length, wipe_length] at h2
    rw [← h1, h2, R.ln]
  have at3 : ∀ {i : Nat} {s : SV}, (unS vs S S3)[i]? = some s → (i ∈ vs ∧ S[i]? = some s ∧ ∀ ds, s ≠ .ow ds) ∨ (i ∉ vs ∧ S3[i]? = some s) := fun {i s} h => by
    rw [unS_get] at h
    by_cases e : i ∈ vs
    · rw [if_pos e] at h
      split at h
      · cases h
        obtain ⟨hl, hn⟩ := okOwn_at ok e
        have q : S[i]? = some (S.getD i .no) := by rw [List.getD_eq_getElem?_getD, List.getElem?_eq_getElem hl]; rfl
        exact .inl ⟨e, q, fun ds z => hn ds (by rw [q, z])⟩
      · cases h
    · rw [if_neg e] at h
      exact .inr ⟨e, h⟩
  refine ⟨R2.gh, R.gg.trans R2.gg, fun a h => ?_, fun a o h hm => ?_, by rw [unS_length, len3]; exact R.ln, fun i s h => ?_, fun i j xs ys hij hi hj => ?_, R.mm, fun m hm => ?_⟩
  · rcases R2.fr a h with z | z | ⟨⟨i, l⟩, hm, z⟩
    · exact R.fr a z
    · exact .inr (.inl (noB z))
    · obtain ⟨_, ⟨ds, h1⟩, h2⟩ := inM hm
      have z' : l = a := z
      subst z'
      rcases slot h1 h2 with q | q
      · exact .inr (.inl q)
      · exact .inr (.inr ⟨_, q, rfl⟩)
  · refine keep (fun e => by rw [e, bp] at h; cases h) (R.kp a o h hm) fun m' hm' e => ?_
    obtain ⟨i, l⟩ := m'
    obtain ⟨_, ⟨ds, h1⟩, h2⟩ := inM hm'
    have e' : l = a := e
    subst e'
    rcases slot h1 h2 with q | q
    · rw [q] at h
      cases h
    · exact hm _ q rfl
  · rcases at3 h with ⟨e, h1, h2⟩ | ⟨e, h1⟩
    · have q := R.sl i s h1
      cases s with
      | no => trivial
      | fz d =>
        obtain ⟨v, q1, q2⟩ := q
        exact ⟨v, q1, q2.mono R2.gg⟩
      | ow ds => exact absurd rfl (h2 ds)
    · have q := R2.sl i s h1
      cases s with
      | no => trivial
      | fz d =>
        obtain ⟨v, q1, q2⟩ := q
        exact ⟨v, by rw [← eqσ e]; exact q1, q2⟩
      | ow ds =>
        obtain ⟨l, ws, q1, q2, q3, q4, q5⟩ := q
        refine ⟨l, ws, by rw [← eqσ e]; exact q1, q2, q3, q4, ?_⟩
        rcases q5 with z | z
        · exact .inl (noB z)
        · obtain ⟨_, ⟨es, h1'⟩, h2'⟩ := inM z
          exact slot h1' h2'
  · rcases at3 hi with ⟨_, _, h2⟩ | ⟨ei, hi'⟩
    · exact absurd rfl (h2 xs)
    · rcases at3 hj with ⟨_, _, h2⟩ | ⟨ej, hj'⟩
      · exact absurd rfl (h2 ys)
      · have q := R2.ds i j xs ys hij hi' hj'
        rw [eqσ ei, eqσ ej] at q
        exact q
  · obtain ⟨o, ho⟩ := R.mh m hm
    by_cases z : ∃ m' ∈ locM (wipe σ vs) (wS vs S), m'.2 = m.2
    · obtain ⟨m', hm', e⟩ := z
      rw [← e]
      exact R2.mh m' hm'
    · exact ⟨o, keep (bmp m hm) ho fun m' hm' e => z ⟨m', hm', e⟩⟩
/-- no slot of a turn holds the list that is made -/
theorem loc_ns (R2 : Rel K (loc G H (wipe σ vs) (wS vs S)) G2 H2 σ2 S3) {o : HO} (hp : H p = some o) (ns : ∀ (i : Nat) (xs : List D), S[i]? = some (SV.ow xs) → σ[i]? ≠ some (some (V.ref p))) : ∀ (i : Nat) (xs : List D), S3[i]? = some (SV.ow xs) → σ2[i]? ≠ some (some (V.ref p)) := fun i xs hi hσ => by
  obtain ⟨l, us, p1, p2, p3, p4, p5⟩ := R2.sl i _ hi
  rw [hσ] at p1
  cases p1
  rcases p5 with z | z
  · have z' : H p = none := z
    rw [hp] at z'
    cases z'
  · obtain ⟨⟨zs, z1⟩, z2⟩ := mem_locM.mp z
    have hi' : i ∉ vs := fun e => by rw [wS_get, if_pos e] at z1; split at z1 <;> cases z1
    rw [wS_get, if_neg hi'] at z1
    rw [wipe_get, if_neg hi'] at z2
    exact ns i zs z1 z2
end
def canI (K : PySem.W.Frag) (mg : Str → Option Value) (W : WX) (m : M (List D)) : TI := fun σ H Q => ∃ B G S, Rel K B G H σ S ∧ PoI K mg B W σ G (m S) Q
theorem GI.can {X : Cx} {W : WX} {tg e : Expr} {m : M (List D)} (h : GI X W tg e m) : PI X tg e (canI X.K X.mg W m) := by
  obtain ⟨t, p, q⟩ := h
  exact ⟨fun pins s σ H Q I ⟨B, G, S, R, k⟩ => p.run pins s σ H Q I (q B G H σ S Q R k)⟩
def compLoop2 (vs : List Nat) (g : GF) (mt : M Bool) (mi1 : M (List D)) (vs1 : List Nat) (g1 : GF) (mt1 : M Bool) (me : M D) : List D → List D → SS → Rs (List D)
  | [], acc, S => .ok acc S
  | d :: ds, acc, S => match g d (wS vs S) with
    | none => .bad
    | some S1 => (noE (mt S1)).bind fun b S2 => if b = true then (noE (mi1 S2)).bind fun es S3 => if okOwn vs1 S3 = true then (noE (compLoop vs1 g1 mt1 me es acc S3)).bind fun acc' S4 => compLoop2 vs g mt mi1 vs1 g1 mt1 me ds acc' (unS vs S S4) else .bad
      else compLoop2 vs g mt mi1 vs1 g1 mt1 me ds acc (unS vs S S2)
def mComp2 (mi : M (List D)) (vs : List Nat) (g : GF) (mt : M Bool) (mi1 : M (List D)) (vs1 : List Nat) (g1 : GF) (mt1 : M Bool) (me : M D) : M (List D) := fun S => (mi S).bind fun ds S1 => if okOwn vs S1 = true then compLoop2 vs g mt mi1 vs1 g1 mt1 me ds [] S1 else .bad
section
variable {X : Cx} {W : WX} {is is1 : List Nat} {g g1 : GF} {mt mt1 : M Bool} {me : M D} {mi mi1 : M (List D)}
theorem comp2_out {wi : TI} (qi : ∀ (B : Bs) (G H : Hp) (σ : L2.St) (S : SS) (Q : It → Hp → Prop), Rel X.K B G H σ S → PoI X.K X.mg B W σ G (mi S) Q → wi σ H Q) {vs vs1 : List Nat} (his : ∀ i ∈ is, i ∈ vs) (his1 : ∀ i ∈ is1, i ∈ vs1) :
    ∀ (B : Bs) (G H : Hp) (σ : L2.St) (S : SS) (Q : VK), Rel X.K B G H σ S → PoL X.K X.mg B W σ G (mComp2 mi vs g mt mi1 vs1 g1 mt1 me S) Q →
      tLc2 wi (canG X.K is g) (canT X.K X.mg W0 mt) (canI X.K X.mg W0 mi1) (canG X.K is1 g1) (canT X.K X.mg W0 mt1) (canE X.K X.mg W0 me) vs vs1 σ H Q := fun B G H σ S Q R h => by
  refine qi B G H σ S _ R ?_
  unfold mComp2 at h
  cases hm : mi S with
  | bad => rw [hm] at h; exact h
  | err c pl S' => rw [hm] at h; exact h
  | ok ds S1 =>
    rw [hm, Rs.bind_ok] at h
    intro J G1 H1 e1 R1 y D hD
    by_cases hown : okOwn vs S1 = true
    case neg => rw [if_neg hown] at h; exact h.elim
    rw [if_pos hown] at h
    have bD := R1.noB hD
    have bmD := R1.noBM hD
    refine ⟨fun i m H' => ∃ G' S' acc ws, m = ds.length - i ∧ i ≤ ds.length ∧ Ex G1 G' ∧ Rel X.K B G' H' σ S' ∧ okOwn vs S' = true ∧ H' D = some (.lst ws) ∧ DPs X.K G' ws acc ∧ G' D = none ∧
      compLoop2 vs g mt mi1 vs1 g1 mt1 me (ds.drop i) acc S' = compLoop2 vs g mt mi1 vs1 g1 mt1 me ds [] S1 ∧ (∀ (j : Nat) (xs : List Q4.D), S'[j]? = some (SV.ow xs) → σ[j]? ≠ some (some (V.ref D))), ⟨ds.length, G1, S1, [], [], by simp, Nat.zero_le _, Ex.refl _, R1.loose hD, hown, upd_same, .nil, fresh_back R1.gh hD, by rw [List.drop_zero], R1.noS hD⟩, ?_⟩
    rintro i m H' ⟨G', S', acc, ws, rfl, hi, eg, R', ok', hws, dws, gD, hres, nsD⟩
    by_cases hlt : i < ds.length
    · have hd : ds[i]? = some ds[i] := List.getElem?_eq_getElem hlt
      rw [List.drop_eq_getElem_cons hlt] at hres
      obtain ⟨_, yq⟩ := y i G' H' eg R'.gh
      obtain ⟨ygo, yit⟩ := yq _ hd
      refine .inr ⟨ygo, fun H'' => ∃ G' S' acc ws, Ex G1 G' ∧ Rel X.K B G' H'' σ S' ∧ okOwn vs S' = true ∧ H'' D = some (.lst ws) ∧ DPs X.K G' ws acc ∧ G' D = none ∧
        compLoop2 vs g mt mi1 vs1 g1 mt1 me (ds.drop (i + 1)) acc S' = compLoop2 vs g mt mi1 vs1 g1 mt1 me ds [] S1 ∧ (∀ (j : Nat) (xs : List Q4.D), S'[j]? = some (SV.ow xs) → σ[j]? ≠ some (some (V.ref D))), fun H'' n => ?_, fun x H2 hy => ?_⟩
      · obtain ⟨G', S', acc, ws, k1, k2, k3, k4, k5, k6, k7, k8⟩ := n
        exact ⟨ds.length - (i + 1), by omega, G', S', acc, ws, rfl, hlt, k1, k2, k3, k4, k5, k6, k7, k8⟩
      · obtain ⟨G2, al, dx⟩ := yit x H2 hy
        have eg2 := al.ex R'.gh
        have R2 := R'.alc al
        have hws2 : H2 D = some (.lst ws) ∧ G2 D = none := by
          rcases al with ⟨rfl, rfl⟩ | ⟨p, o, hp, rfl, rfl⟩
          · exact ⟨hws, gD⟩
          · have : D ≠ p := ne_of_none hws hp
            rw [upd_ne this, upd_ne this]
            exact ⟨hws, gD⟩
        rw [compLoop2] at hres
        cases hg : g ds[i] (wS vs S') with
        | none =>
          rw [hg] at hres
          rw [← hres] at h
          exact h.elim
        | some S2 =>
          rw [hg] at hres
          refine ⟨loc G2 H2 (wipe σ vs) (wS vs S'), G2, wS vs S', S2, ds[i], fun m hm z => ?_, R2.inn vs, dx, hg, fun σ2 R3 hw => ?_⟩
          · obtain ⟨j, l⟩ := m
            obtain ⟨⟨xs, h1⟩, h2⟩ := mem_locM.mp hm
            rw [wS_get, if_pos (his _ z)] at h1
            split at h1 <;> cases h1
          have hw' : wipe σ2 vs = wipe σ vs := (hw vs his).trans (wipe_wipe σ vs)
          refine ⟨hw', loc G2 H2 (wipe σ vs) (wS vs S'), G2, S2, R3, ?_⟩
          have ln4 : ∀ {B0 : Bs} {G4 H4 : Hp} {S4 : SS}, Rel X.K B0 G4 H4 σ2 S4 → S4.length = S'.length := fun {B0 G4 H4 S4} R4 => by
            have q1 := R4.ln
            have q2 := congrArg List.length hw'
            rw [wipe_length, wipe_length] at q2
            rw [← q1, q2, R2.ln]
          have nsU : ∀ {S4 : SS}, (∀ (j : Nat) (xs : List Q4.D), S4[j]? = some (SV.ow xs) → σ2[j]? ≠ some (some (V.ref D))) → (∀ (j : Nat) (xs : List Q4.D), (unS vs S' S4)[j]? = some (SV.ow xs) → σ[j]? ≠ some (some (V.ref D))) := fun {S4} n4 j xs hj hσ => by
            rw [unS_get] at hj
            by_cases ej : j ∈ vs
            · rw [if_pos ej] at hj
              split at hj
              · obtain ⟨z1, z2⟩ := okOwn_at ok' ej
                have q : S'[j]? = some (S'.getD j .no) := by rw [List.getD_eq_getElem?_getD, List.getElem?_eq_getElem z1]; rfl
                exact z2 xs (by rw [q]; exact hj)
              · cases hj
            · rw [if_neg ej] at hj
              have eσ : σ2[j]? = σ[j]? := by
                have e : (wipe σ2 vs)[j]? = (wipe σ vs)[j]? := by rw [hw']
                rw [wipe_get, wipe_get, if_neg ej, if_neg ej] at e
                exact e
              exact n4 j xs hj (by rw [eσ]; exact hσ)
          simp only at hres
          cases ht : mt S2 with
          | bad => rw [ht] at hres; rw [← hres] at h; exact h.elim
          | err c pl S' => rw [ht] at hres; rw [← hres] at h; exact h.elim
          | ok b S3 =>
            rw [ht] at hres
            intro G3 H3 e3 R4
            cases b with
            | false =>
              refine iteF ?_
              have hres' : compLoop2 vs g mt mi1 vs1 g1 mt1 me (ds.drop (i + 1)) acc (unS vs S' S3) = compLoop2 vs g mt mi1 vs1 g1 mt1 me ds [] S1 := hres
              obtain ⟨k1, k2⟩ := loc_keeps R2 R4 hws2.1 hws2.2 nsD
              exact ⟨G3, _, acc, ws, (eg.trans eg2).trans e3, R2.out ok' R4 hw', okOwn_un ok' (ln4 R4), k1, dws.mono (eg2.trans e3), k2, hres', nsU (loc_ns R4 hws2.1 nsD)⟩
            | true =>
              refine iteT ⟨loc G2 H2 (wipe σ vs) (wS vs S'), G3, S3, R4, ?_⟩
              have hres' : ((noE (mi1 S3)).bind fun es S3 => if okOwn vs1 S3 = true then (noE (compLoop vs1 g1 mt1 me es acc S3)).bind fun acc' S4 => compLoop2 vs g mt mi1 vs1 g1 mt1 me (ds.drop (i + 1)) acc' (unS vs S' S4) else .bad) = compLoop2 vs g mt mi1 vs1 g1 mt1 me ds [] S1 := hres
              cases hi1 : mi1 S3 with
              | bad => rw [hi1] at hres'; rw [← hres'] at h; exact h.elim
              | err c pl S' => rw [hi1] at hres'; rw [← hres'] at h; exact h.elim
              | ok es S4 =>
                rw [hi1] at hres'
                intro J1 G4 H4 e4 R5 y1
                have hres2 : (if okOwn vs1 S4 = true then (noE (compLoop vs1 g1 mt1 me es acc S4)).bind fun acc' S4 => compLoop2 vs g mt mi1 vs1 g1 mt1 me (ds.drop (i + 1)) acc' (unS vs S' S4) else .bad) = compLoop2 vs g mt mi1 vs1 g1 mt1 me ds [] S1 := hres'
                by_cases ho1 : okOwn vs1 S4 = true
                case neg => rw [if_neg ho1] at hres2; rw [← hres2] at h; exact h.elim
                rw [if_pos ho1] at hres2
                obtain ⟨k1, k2⟩ := loc_keeps R2 R5 hws2.1 hws2.2 nsD
                cases hl : compLoop vs1 g1 mt1 me es acc S4 with
                | bad => rw [hl] at hres2; rw [← hres2] at h; exact h.elim
                | err c pl S' => rw [hl] at hres2; rw [← hres2] at h; exact h.elim
                | ok acc' S5 =>
                  rw [hl] at hres2
                  have bmD2 : ∀ m ∈ locM (wipe σ vs) (wS vs S'), m.2 ≠ D := fun m hm e => by
                    obtain ⟨j, l⟩ := m
                    obtain ⟨⟨zs, z1⟩, z2⟩ := mem_locM.mp hm
                    have hj' : j ∉ vs := fun e => by rw [wS_get, if_pos e] at z1; split at z1 <;> cases z1
                    rw [wS_get, if_neg hj'] at z1
                    rw [wipe_get, if_neg hj'] at z2
                    have e' : l = D := e
                    exact nsD j zs z1 (by rw [z2, e'])
                  refine comp_turns (X := X) (p := D) his1 (R5.toD (p := D)) y1 ho1 k1 (dws.mono (eg2.trans (e3.trans e4))) k2 (by show (if D = D then none else H2 D) = none; rw [if_pos rfl]) bmD2 (loc_ns R5 hws2.1 nsD) hl fun G6 H6 ws6 e6 R6 ok6 hw6 dw6 g6 n6 => ?_
                  exact ⟨G6, _, acc', ws6, (((eg.trans eg2).trans e3).trans e4).trans e6, R2.outD bD bmD ok' R6 hw', okOwn_un ok' (ln4 R6), hw6, dw6, g6, hres2, nsU n6⟩
    · have ei : i = ds.length := by omega
      subst ei
      rw [List.drop_length] at hres
      have hres' : Rs.ok acc S' = compLoop2 vs g mt mi1 vs1 g1 mt1 me ds [] S1 := hres
      rw [← hres'] at h
      exact .inl ⟨(y _ G' H' eg R'.gh).1 (Nat.le_refl _), h D ws G' H' (e1.trans eg) R' hws dws gD bD nsD⟩
end
end Q4


set_option Elab.async false
set_option linter.all false
set_option maxRecDepth 100000
set_option maxHeartbeats 4000000
/-! Part N4: rules for two generators, sorted, try: .. except X as e: return e.place. -/
namespace Q4
open PySem PySem.Spec PyProof.Rows L2 Evl ClX

/-! ### sorted -/
def ins1 (x : Int) : List Int → List Int
  | [] => [x]
  | y :: r => if x ≤ y then x :: y :: r else y :: ins1 x r
def isort : List Int → List Int
  | [] => []
  | x :: r => ins1 x (isort r)
theorem ins1_perm (x : Int) : ∀ l : List Int, (ins1 x l).Perm (x :: l)
  | [] => .refl _
  | y :: r => by
    unfold ins1
    split
    · exact .refl _
    · exact ((ins1_perm x r).cons y).trans (.swap x y r)
theorem isort_perm : ∀ l : List Int, (isort l).Perm l
  | [] => .refl _
  | x :: r => (ins1_perm x (isort r)).trans ((isort_perm r).cons x)
theorem ins1_sorted (x : Int) : ∀ l : List Int, l.Pairwise (· ≤ ·) → (ins1 x l).Pairwise (· ≤ ·)
  | [], _ => List.pairwise_singleton _ _
  | y :: r, h => by
    obtain ⟨h1, h2⟩ := List.pairwise_cons.mp h
    unfold ins1
    split
    · rename_i c
      refine List.pairwise_cons.mpr ⟨fun z hz => ?_, h⟩
      rcases List.mem_cons.mp hz with rfl | hz
      · exact c
      · exact Int.le_trans c (h1 z hz)
    · rename_i c
      refine List.pairwise_cons.mpr ⟨fun z hz => ?_, ins1_sorted x r h2⟩
      rcases List.mem_cons.mp ((ins1_perm x r).mem_iff.mp hz) with rfl | hz
      · omega
      · exact h1 z hz
theorem isort_sorted : ∀ l : List Int, (isort l).Pairwise (· ≤ ·)
  | [] => .nil
  | x :: r => ins1_sorted x _ (isort_sorted r)
theorem isort_uniq {l m : List Int} (hp : m.Perm l) (hs : m.Pairwise (· ≤ ·)) : m = isort l :=
  List.Perm.eq_of_pairwise (fun a b _ _ h1 h2 => Int.le_antisymm h1 h2) hs (isort_sorted l) (hp.trans (isort_perm l).symm)
def dSorted : List D → Option (List D)
  | [.lst ds] => (ints? ds).map fun ns => (isort ns).map .int
  | _ => none
theorem cl_sorted {K : PySem.W.Frag} : CallL K (rSortedI K) dSorted := by
  intro vs ds es G H Q e hs gh k
  unfold dSorted at e
  split at e
  · rename_i ds'
    obtain ⟨ns, e1, rfl⟩ := Option.map_eq_some_iff.mp e
    have e2 := ints?_some e1
    subst e2
    cases hs with
    | cons h1 h2 =>
      cases h2
      cases h1 with
      | lst h3 h4 =>
        have e3 := h4.ints
        subst e3
        refine ⟨_, ns, rfl, SqL.of (gh _ _ h3), fun ns' p hp hso hn => ?_⟩
        have e4 := isort_uniq hp hso
        subst e4
        exact k p _ hn (DPs.of_ints _)
  · cases e

/-! ### two generators -/
section
variable {X : Cx} {W : WX} {elt tg iter tg1 iter1 : Expr} {ifs ifs1 : List Expr} {scope : Scope} {own : List (Str × Nat)} {pos : Pos} {mi mi1 : M (List D)} {is is1 vs1 : List Nat} {g g1 : GF} {mt mt1 : M Bool} {me : M D}
theorem gl_comp2 (nd : X.N.Nodup) (vs1 : List Nat) (hi : GI X W tg iter mi) (ok : BlkOk X.N X.env.scope scope own)
    (hg : ∀ (s : Shared) (H : Hp) (C : Addr) (cl : List (Str × Addr)) (fp : List Addr), GG (X.blk s H scope (compEnvC scope cl C X.env) fp) tg is g)
    (ht : ∀ (s : Shared) (H : Hp) (C : Addr) (cl : List (Str × Addr)) (fp : List Addr), GTs (X.blk s H scope (compEnvC scope cl C X.env) fp) W0 ifs mt)
    (hi1 : ∀ (s : Shared) (H : Hp) (C : Addr) (cl : List (Str × Addr)) (fp : List Addr), GI (X.blk s H scope (compEnvC scope cl C X.env) fp) W0 tg1 iter1 mi1)
    (hg1 : ∀ (s : Shared) (H : Hp) (C : Addr) (cl : List (Str × Addr)) (fp : List Addr), GG (X.blk s H scope (compEnvC scope cl C X.env) fp) tg1 is1 g1)
    (ht1 : ∀ (s : Shared) (H : Hp) (C : Addr) (cl : List (Str × Addr)) (fp : List Addr), GTs (X.blk s H scope (compEnvC scope cl C X.env) fp) W0 ifs1 mt1)
    (he : ∀ (s : Shared) (H : Hp) (C : Addr) (cl : List (Str × Addr)) (fp : List Addr), GE (X.blk s H scope (compEnvC scope cl C X.env) fp) W0 elt me)
    (his : ∀ i ∈ is, i ∈ own.map (·.2) := by decide) (his1 : ∀ i ∈ is1, i ∈ vs1 := by decide) (hv : ∀ i ∈ vs1, i ∈ own.map (·.2) := by decide) (hc : X.calm = true := by rfl) (hs : ∀ x, foldedSetIterable iter X.env x = pure x := by intro _; rfl) (hs1 : ∀ env x, foldedSetIterable iter1 env x = pure x := by intro _ _; rfl) :
    GL X W (.ListComp elt [⟨tg, iter, ifs, 0⟩, ⟨tg1, iter1, ifs1, 0⟩] scope pos) (mComp2 mi (own.map (·.2)) g mt mi1 vs1 g1 mt1 me) := by
  obtain ⟨wi, pi, qi⟩ := hi
  exact ⟨_, pe_lc2 hc nd pi ok hv (fun s H C cl fp => (hg s H C cl fp).can) (fun s H C cl fp => (ht s H C cl fp).can) (fun s H C cl fp => (hi1 s H C cl fp).can) (fun s H C cl fp => (hg1 s H C cl fp).can) (fun s H C cl fp => (ht1 s H C cl fp).can) (fun s H C cl fp => (he s H C cl fp).can) hs hs1, comp2_out qi his his1⟩
theorem gs_asgC2 {py spos : Pos} {y : Str} {mp : List Nat} (i : Nat) (nd : X.N.Nodup) (vs1 : List Nat) (hi : GI X W tg iter mi) (ok : BlkOk X.N X.env.scope scope own)
    (hg : ∀ (s : Shared) (H : Hp) (C : Addr) (cl : List (Str × Addr)) (fp : List Addr), GG (X.blk s H scope (compEnvC scope cl C X.env) fp) tg is g)
    (ht : ∀ (s : Shared) (H : Hp) (C : Addr) (cl : List (Str × Addr)) (fp : List Addr), GTs (X.blk s H scope (compEnvC scope cl C X.env) fp) W0 ifs mt)
    (hi1 : ∀ (s : Shared) (H : Hp) (C : Addr) (cl : List (Str × Addr)) (fp : List Addr), GI (X.blk s H scope (compEnvC scope cl C X.env) fp) W0 tg1 iter1 mi1)
    (hg1 : ∀ (s : Shared) (H : Hp) (C : Addr) (cl : List (Str × Addr)) (fp : List Addr), GG (X.blk s H scope (compEnvC scope cl C X.env) fp) tg1 is1 g1)
    (ht1 : ∀ (s : Shared) (H : Hp) (C : Addr) (cl : List (Str × Addr)) (fp : List Addr), GTs (X.blk s H scope (compEnvC scope cl C X.env) fp) W0 ifs1 mt1)
    (he : ∀ (s : Shared) (H : Hp) (C : Addr) (cl : List (Str × Addr)) (fp : List Addr), GE (X.blk s H scope (compEnvC scope cl C X.env) fp) W0 elt me)
    (hm : i ∉ mp := by decide) (his : ∀ i ∈ is, i ∈ own.map (·.2) := by decide) (his1 : ∀ i ∈ is1, i ∈ vs1 := by decide) (hv : ∀ i ∈ vs1, i ∈ own.map (·.2) := by decide) (hy : X.N[i]? = some y := by rfl) (hyl : X.env.scope.names.lookup y = some .local := by rfl)
    (hsw : swapsWith (.ListComp elt [⟨tg, iter, ifs, 0⟩, ⟨tg1, iter1, ifs1, 0⟩] scope pos) (some (.Name y py)) spos.line X.env = pure true := by exact sw_true rfl rfl rfl (by decide +kernel))
    (hc : X.calm = true := by rfl) (hs : ∀ x, foldedSetIterable iter X.env x = pure x := by intro _; rfl) (hs1 : ∀ env x, foldedSetIterable iter1 env x = pure x := by intro _ _; rfl) :
    GS X W mp (.Assign [.Name y py] (.ListComp elt [⟨tg, iter, ifs, 0⟩, ⟨tg1, iter1, ifs1, 0⟩] scope pos) spos) (mAsgL i (mComp2 mi (own.map (·.2)) g mt mi1 vs1 g1 mt1 me)) := by
  obtain ⟨wi, pi, qi⟩ := hi
  exact ⟨_, ps_setLc2 hc nd hy hyl hsw pi ok hv (fun s H C cl fp => (hg s H C cl fp).can) (fun s H C cl fp => (ht s H C cl fp).can) (fun s H C cl fp => (hi1 s H C cl fp).can) (fun s H C cl fp => (hg1 s H C cl fp).can) (fun s H C cl fp => (ht1 s H C cl fp).can) (fun s H C cl fp => (he s H C cl fp).can) hs hs1, asgL_out (comp2_out qi his his1) hm⟩
end
/-! ### what is told alone -/
def mTryP (x : Str) (i : Nat) (mb : M Fl) : M Fl := fun S => match mb S with
  | .err c pl S' => if c = x ∧ i < S'.length then .ok (.rt pl) S' else .bad
  | r => r
section
variable {X : Cx} {W : WX} {mp : List Nat} {x n : Str} {body : List Stmt} {mb : M Fl} {np pos pos' q2 q3 q5 : Pos}
theorem gs_tryP (i : Nat) (CG : CatG X.K X.mg x) (nd : X.N.Nodup) (tk : Takes X W)
    (hb : ∀ (W' : WX) (pn : List (Addr × Obj)) (xe : Value → Shared → Prop), Takes (X.tr pn xe) W' → PassesOwn (model X.prog X.w) X.A X.env xe → GSs (X.tr pn xe) W' mp body mb)
    (hs : X.stack = X.env :: X.outer := by rfl) (hf : X.env.frame = some X.env.locals := by rfl) (hi : X.N[i]? = some n := by rfl) (hln : X.env.kindOf n = some .local := by rfl) (hg : Gl X x := by rfl) (hdb : (x == ("__debug__" : Str)) = false := by decide)
    (hv : Vis X.env.scope n := by first | exact Or.inl rfl | exact Or.inr (Or.inl rfl) | exact Or.inr (Or.inr rfl)) (hd : (n == ("__debug__" : Str)) = false := by decide) (hcd : (n == ("__classdict__" : Str)) = false := by decide)
    (hab : attributeBase (.Name n q3) "place" X.env (eval (.Name n q3) X.env) = eval (.Name n q3) X.env := by rfl) :
    GS X W mp (.Try body [.ExceptHandler (some (.Name x np)) (some n) [.Return (some (.Attribute (.Name n q3) "place" q2)) q5] pos'] [] [] pos) (mTryP x i mb) := by
  obtain ⟨C, hm, T, ex, hno⟩ := CG.ex
  refine ⟨_, ps_try_as (i := i) (tb := fun W' => canS X.K X.mg W' mp mb) (ts := fun a cls d => tRet (tXf a cls d C "place" (tVar i))) hs hf nd hi hln ⟨hg, hdb, .inl hm⟩ tk (fun W' pn xe tk' po => (hb W' pn xe tk' po).can)
    (fun a oe cls d pn hz hfl => pss_one (ps_ret (pe_xf T hno hz hfl (pe_var hi hv hd hcd) hab))), fun B G H σ S Z nm R h => ?_⟩
  refine ⟨B, G, S, nm, R, ?_⟩
  unfold mTryP at h
  cases hmb : mb S with
  | bad => rw [hmb] at h; exact h
  | ok f S' =>
    rw [hmb] at h
    cases f with
    | _ => exact h
  | err c pl S' =>
    rw [hmb] at h
    simp only at h
    split at h
    · rename_i hc
      obtain ⟨rfl, il⟩ := hc
      intro cls dd σ' G' H' eg R' er
      obtain ⟨C', fs, v, hm', rfl, hdd, hpl, hw, dv⟩ := er
      rw [hm] at hm'
      cases hm'
      refine ⟨true, ex, fun _ a na => ?_, fun z => (Bool.false_ne_true z.symm).elim⟩
      show (tXf a (.ref C) (some dd) C "place" (tVar i)) (σ'.set i (some (.ref a))) H' Z.rt
      exact ⟨.ref a, List.getElem?_set_self (by rw [R'.ln]; exact il), rfl, rfl, dd, fs, v, rfl, hdd, hpl, h v σ' _ _ eg R' dv⟩
    · exact h.elim
end

/-! ### what they come to -/
theorem s_tryP {S : SS} {x : Str} {i : Nat} {mb : M Fl} {Q : Fl → SS → Prop} (h : (mb S).sat Q) : (mTryP x i mb S).sat Q := by
  obtain ⟨f, S', e, q⟩ := h
  unfold mTryP
  rw [e]
  exact sat_ok q
theorem s_caughtP {S S' : SS} {x : Str} {i : Nat} {mb : M Fl} {pl : D} {Q : Fl → SS → Prop} (h : mb S = .err x pl S') (hi : i < S'.length) (q : Q (.rt pl) S') : (mTryP x i mb S).sat Q := by
  unfold mTryP
  rw [h]
  simp only
  rw [if_pos ⟨trivial, hi⟩]
  exact sat_ok q
section
variable {vs vs1 : List Nat} {g g1 : GF} {mt mt1 : M Bool} {me : M D} {mi mi1 : M (List D)}
theorem loop_map (F : D → D) {S : SS} (ok : okOwn vs S = true) : ∀ (ds acc : List D), acc.length + ds.length ≤ cap → (∀ d ∈ ds, ∃ S2, g d (wS vs S) = some S2 ∧ (mt S2).sat fun b S3 => b = true ∧ (me S3).sat fun y S4 => y = F d ∧ unS vs S S4 = S) → compLoop vs g mt me ds acc S = .ok (acc ++ ds.map F) S
  | [], acc, _, _ => by rw [compLoop, List.map_nil, List.append_nil]
  | d :: ds, acc, hl, h => by
    obtain ⟨S2, e1, b, S3, e2, rfl, y, S4, e3, rfl, e4⟩ := h d List.mem_cons_self
    rw [List.length_cons] at hl
    rw [compLoop_cons, e1]
    simp only
    rw [e2]
    show Rs.bind (.ok true S3) _ = _
    rw [Rs.bind_ok, if_pos rfl, e3]
    show Rs.bind (.ok (F d) S4) _ = _
    rw [Rs.bind_ok, if_pos (by omega), e4, loop_map F ok ds (acc ++ [F d]) (by rw [List.length_append, List.length_singleton]; omega) fun d' hd => h d' (List.mem_cons_of_mem _ hd)]
    simp
theorem loop_map2 (I : D → List D) (F : D → D → D) {S : SS} (ok : okOwn vs S = true) : ∀ (ds acc : List D), acc.length + (ds.flatMap I).length ≤ cap → (∀ d ∈ ds, ∃ S2, g d (wS vs S) = some S2 ∧ (mt S2).sat fun b S3 => b = true ∧ (mi1 S3).sat fun es S4 => es = I d ∧ okOwn vs1 S4 = true ∧ unS vs S S4 = S ∧ ∀ e ∈ es, ∃ S5, g1 e (wS vs1 S4) = some S5 ∧ (mt1 S5).sat fun b S6 => b = true ∧ (me S6).sat fun y S7 => y = F d e ∧ unS vs1 S4 S7 = S4) →
    compLoop2 vs g mt mi1 vs1 g1 mt1 me ds acc S = .ok (acc ++ ds.flatMap fun d => (I d).map (F d)) S
  | [], acc, _, _ => by rw [compLoop2, List.flatMap_nil, List.append_nil]
  | d :: ds, acc, hl, h => by
    obtain ⟨S2, e1, b, S3, e2, rfl, es, S4, e3, rfl, o1, e4, h1⟩ := h d List.mem_cons_self
    rw [List.flatMap_cons, List.length_append] at hl
    rw [compLoop2, e1]
    simp only
    rw [e2]
    show Rs.bind (.ok true S3) _ = _
    rw [Rs.bind_ok, if_pos rfl, e3]
    show Rs.bind (.ok (I d) S4) _ = _
    rw [Rs.bind_ok, if_pos o1, loop_map (F d) o1 (I d) acc (by omega) h1]
    show Rs.bind (.ok (acc ++ (I d).map (F d)) S4) _ = _
    rw [Rs.bind_ok, e4, loop_map2 I F ok ds _ (by rw [List.length_append, List.length_map]; omega) fun d' hd => h d' (List.mem_cons_of_mem _ hd)]
    simp
theorem s_map2 {Q : List D → SS → Prop} {S : SS} (I : D → List D) (F : D → D → D) (h : (mi S).sat fun ds S1 => okOwn vs S1 = true ∧ (ds.flatMap I).length ≤ cap ∧ (∀ d ∈ ds, ∃ S2, g d (wS vs S1) = some S2 ∧ (mt S2).sat fun b S3 => b = true ∧ (mi1 S3).sat fun es S4 => es = I d ∧ okOwn vs1 S4 = true ∧ unS vs S1 S4 = S1 ∧ ∀ e ∈ es, ∃ S5, g1 e (wS vs1 S4) = some S5 ∧ (mt1 S5).sat fun b S6 => b = true ∧ (me S6).sat fun y S7 => y = F d e ∧ unS vs1 S4 S7 = S4) ∧
    Q (ds.flatMap fun d => (I d).map (F d)) S1) : (mComp2 mi vs g mt mi1 vs1 g1 mt1 me S).sat Q := by
  unfold mComp2
  refine sat_bind (sat_mono h fun ds S1 ⟨h0, h1, h2, h3⟩ => ?_)
  rw [if_pos h0, loop_map2 I F h0 ds [] (by simpa using h1) h2]
  exact sat_ok (by rw [List.nil_append]; exact h3)
theorem o_sorted {ns : List Int} {Q : List D → Prop} (q : Q ((isort ns).map .int)) (e : ints? (ns.map .int) = some ns) : ∃ d, dSorted [.lst (ns.map .int)] = some d ∧ Q d := ⟨_, by unfold dSorted; simp only; rw [e]; rfl, q⟩
end
end Q4


set_option Elab.async false
set_option linter.all false
set_option maxRecDepth 100000
set_option maxHeartbeats 4000000
/-! Division of polynomials modulo p: one quotient, one remainder, one divisor. -/
namespace Lib
open PySem PySem.Spec PyProof.Rows L2 Evl Q4

theorem addL_end (z : Int) : ∀ (u v : List Int), u.length ≤ v.length → ∃ w : List Int, addL u (v ++ [z]) = w ++ [z] ∧ w.length = v.length
  | [], v, _ => ⟨v, by simp [addL], rfl⟩
  | x :: u, [], h => absurd h (Nat.not_succ_le_zero _)
  | x :: u, y :: v, h => by
    obtain ⟨w, h1, h2⟩ := addL_end z u v (Nat.le_of_succ_le_succ h)
    exact ⟨(x + y) :: w, by simp [addL, h1], by simp [h2]⟩
theorem addL_nil (a : List Int) : addL a [] = a := by cases a <;> rfl
theorem mulL_end (x y : Int) (zs : List Int) : ∀ ys : List Int, ∃ ws : List Int, mulL (ys ++ [x]) (zs ++ [y]) = ws ++ [x * y] ∧ ws.length = ys.length + zs.length
  | [] => by
    have : mulL [x] (zs ++ [y]) = (zs ++ [y]).map (x * ·) := by
      simp only [mulL]
      cases zs with
      | nil => simp [addL]
      | cons c r => simp [addL, addL_nil]
    refine ⟨zs.map (x * ·), ?_, by simp⟩
    rw [List.nil_append, this]
    simp
  | c :: r => by
    obtain ⟨ws, h1, h2⟩ := mulL_end x y zs r
    obtain ⟨w, h3, h4⟩ := addL_end (x * y) ((zs ++ [y]).map (c * ·)) (0 :: ws) (by simp; omega)
    refine ⟨w, ?_, by rw [h4]; simp; omega⟩
    rw [List.cons_append, mulL, h1]
    exact h3
section
variable {p : Int}
theorem unit_mul (hp : p ∈ P61) {x y : Int} (hx : 0 < x ∧ x < p) (hy : 0 < y ∧ y < p) : 0 < x * y % p := by
  have hb := P61_le p hp
  obtain ⟨h1, _, _, _⟩ := invI_ok hp hx.1 hx.2
  have h0 := Int.emod_nonneg (x * y) (b := p) (by omega)
  rcases Int.lt_or_eq_of_le h0 with h | h
  · exact h
  · exfalso
    have e : (x * invI p x) * y = (x * y) * invI p x := by grind
    have e1 : ((x * invI p x) * y) % p = y % p := by
      rw [Int.mul_emod, h1, Int.one_mul]
      exact Int.emod_emod _ _
    have e2 : ((x * y) * invI p x) % p = 0 := by
      rw [Int.mul_emod, ← h]
      simp
    rw [e, e2, Int.emod_eq_of_lt (by omega) hy.2] at e1
    omega
theorem dig_last {ys : List Int} {x : Int} (hd : Dig p (ys ++ [x])) (hx : x ≠ 0) : 0 < x ∧ x < p := by
  have := hd x (by simp)
  omega
theorem mulC_end (hp : p ∈ P61) {ys zs : List Int} {x y : Int} (h1 : 0 < x ∧ x < p) (h2 : 0 < y ∧ y < p) : ∃ ws : List Int, mulC p (ys ++ [x]) (zs ++ [y]) = ws ++ [x * y % p] ∧ ws.length = ys.length + zs.length := by
  obtain ⟨ws, e1, e2⟩ := mulL_end x y zs ys
  have h := unit_mul hp h1 h2
  refine ⟨ws.map (· % p), ?_, by rw [List.length_map]; exact e2⟩
  rw [mulC, cn, e1, List.map_append, List.map_singleton, trimI_ne _ (by omega)]
theorem mulC_length (hp : p ∈ P61) {a b : List Int} (ha : Dig p a) (na : NZ a) (hb : Dig p b) (nb : NZ b) (a0 : a ≠ []) (b0 : b ≠ []) : (mulC p a b).length + 1 = a.length + b.length := by
  rcases NZ_end na with rfl | ⟨ys, x, rfl, hx⟩
  · exact absurd rfl a0
  rcases NZ_end nb with rfl | ⟨zs, y, rfl, hy⟩
  · exact absurd rfl b0
  obtain ⟨ws, e1, e2⟩ := mulC_end hp (ys := ys) (zs := zs) (dig_last ha hx) (dig_last hb hy)
  rw [e1]
  simp
  omega
theorem Ev.neg {f : Int → Int} (h : Ev f) : Ev (fun B => -f B) := (h.smul (-1)).of fun B => by omega
theorem Ev.sub {f g : Int → Int} (hf : Ev f) (hg : Ev g) : Ev (fun B => f B - g B) := (hf.add hg.neg).of fun B => by omega
theorem Md.sub {f g f' g' : Int → Int} (h1 : Md p f g) (h2 : Md p f' g') : Md p (fun B => f B - f' B) (fun B => g B - g' B) := by
  obtain ⟨q, e, h⟩ := h1
  obtain ⟨q', e', h'⟩ := h2
  exact ⟨fun B => q B - q' B, e.sub e', fun B => by simp only [h, h', Int.mul_sub]; omega⟩
theorem Md.mulL {f g k : Int → Int} (h : Md p f g) (hk : Ev k) : Md p (fun B => k B * f B) (fun B => k B * g B) := by
  obtain ⟨q, e, h⟩ := h
  exact ⟨fun B => k B * q B, hk.mul e, fun B => by simp only [h]; grind⟩
theorem Md.mulR {f g k : Int → Int} (h : Md p f g) (hk : Ev k) : Md p (fun B => f B * k B) (fun B => g B * k B) := by
  obtain ⟨q, e, h⟩ := h
  exact ⟨fun B => q B * k B, e.mul hk, fun B => by simp only [h]; grind⟩
/-- the one list of a function -/
theorem Ev.norm (hp : 0 < p) {f : Int → Int} (h : Ev f) : ∃ l : List Int, Dig p l ∧ NZ l ∧ Md p (fun B => Lib.idx B l) f := by
  obtain ⟨l, e⟩ := h
  exact ⟨cn p l, cn_dig hp l, cn_nz p l, (cn_md p l).trans (Md.of_eq fun B => (e B).symm)⟩
theorem nil_of_md (hp : 0 < p) {l : List Int} (hd : Dig p l) (hn : NZ l) (h : Md p (fun B => idx B l) (fun _ => 0)) : l = [] :=
  cn_uniq hp hd hn (fun a ha => by cases ha) trivial (h.trans (Md.of_eq fun B => rfl))
/-! ### remainders -/
/-- f leaves r by m -/
def Cg (p : Int) (m : List Int) (f : Int → Int) (r : List Int) : Prop := Dig p r ∧ NZ r ∧ r.length < m.length ∧ ∃ k, Ev k ∧ Md p f (fun B => idx B m * k B + idx B r)
theorem small_mul (hp : p ∈ P61) {m k s : List Int} (hm : Dig p m) (nm : NZ m) (hk : Dig p k) (nk : NZ k) (hs : s.length < m.length) (h : Md p (fun B => idx B m * idx B k) (fun B => idx B s)) : k = [] := by
  have hb := P61_le p hp
  cases k with
  | nil => rfl
  | cons c r =>
    exfalso
    have m0 : m ≠ [] := fun e => by rw [e] at hs; exact absurd hs (Nat.not_lt_zero _)
    have e : mulC p m (c :: r) = cn p s := cn_eq (by omega) ((Md.of_eq fun B => idx_mulL B m (c :: r)).trans h)
    have h1 := mulC_length hp hm nm hk nk m0 (by simp)
    have h2 := cn_len p s
    rw [e] at h1
    simp at h1
    omega
theorem Cg.uniq (hp : p ∈ P61) {m r s : List Int} {f : Int → Int} (hm : Dig p m) (nm : NZ m) (h1 : Cg p m f r) (h2 : Cg p m f s) : r = s := by
  have hb := P61_le p hp
  obtain ⟨d1, n1, l1, k1, e1, m1⟩ := h1
  obtain ⟨d2, n2, l2, k2, e2, m2⟩ := h2
  obtain ⟨k, dk, nk, mk⟩ := (e1.sub e2).norm (p := p) (by omega)
  -- m (k1 - k2) = s - r
  have h : Md p (fun B => idx B m * idx B k) (fun B => idx B (addL s (r.map ((-1) * ·)))) := by
    refine (mk.mulL (Ev.idx m)).trans ?_
    have g := m1.symm.trans m2
    refine Md.trans (Md.of_eq (g := fun B => (idx B m * k1 B + idx B r) - (idx B m * k2 B + idx B r)) fun B => by grind) ?_
    refine (g.sub (Md.refl (fun B => idx B m * k2 B + idx B r))).trans (Md.of_eq fun B => ?_)
    rw [idx_addL, idx_smul]
    omega
  have hk := small_mul hp hm nm dk nk (by rw [addL_len, List.length_map]; omega) h
  subst hk
  have h3 : Md p (fun B => idx B r) (fun B => idx B s) := by
    have g : Md p (fun B => idx B s - idx B r) (fun _ => 0) := by
      refine Md.trans (Md.of_eq (g := fun B => idx B (addL s (r.map ((-1) * ·)))) fun B => by rw [idx_addL, idx_smul]; omega) ?_
      exact h.symm.trans (Md.of_eq fun B => by simp)
    exact ((g.symm.add (Md.refl (fun B => idx B r))).trans (Md.of_eq fun B => by omega) |> fun z => (Md.of_eq fun B => by omega).trans z)
  exact cn_uniq (by omega) d1 n1 d2 n2 h3
theorem Cg.of (hp : p ∈ P61) {m r : List Int} {f g : Int → Int} (h : Cg p m f r) (e : Md p g f) : Cg p m g r := by
  obtain ⟨d, n, l, k, ek, mk⟩ := h
  exact ⟨d, n, l, k, ek, e.trans mk⟩
/-- products of what is left -/
theorem Cg.mul {m r s t : List Int} {f g : Int → Int} (ef : Ev f) (h1 : Cg p m f r) (h2 : Cg p m g s) (h : Cg p m (fun B => idx B r * idx B s) t) : Cg p m (fun B => f B * g B) t := by
  obtain ⟨_, _, _, k1, e1, m1⟩ := h1
  obtain ⟨_, _, _, k2, e2, m2⟩ := h2
  obtain ⟨d, n, l, k, ek, mk⟩ := h
  refine ⟨d, n, l, fun B => f B * k2 B + k1 B * idx B s + k B, ((ef.mul e2).add (e1.mul (Ev.idx s))).add ek, ?_⟩
  refine (m2.mulL ef).trans ?_
  refine Md.trans (Md.of_eq (g := fun B => idx B m * (f B * k2 B) + f B * idx B s) fun B => by grind) ?_
  refine ((Md.refl (fun B => idx B m * (f B * k2 B))).add (m1.mulR (Ev.idx s))).trans ?_
  refine Md.trans (Md.of_eq (g := fun B => idx B m * (f B * k2 B + k1 B * idx B s) + idx B r * idx B s) fun B => by grind) ?_
  refine ((Md.refl (fun B => idx B m * (f B * k2 B + k1 B * idx B s))).add mk).trans (Md.of_eq fun B => by grind)
theorem Cg.self {m r : List Int} (hd : Dig p r) (hn : NZ r) (hl : r.length < m.length) : Cg p m (fun B => idx B r) r := ⟨hd, hn, hl, fun _ => 0, Ev.const 0, Md.of_eq fun B => by simp⟩
def IsDiv (p : Int) (a b q r : List Int) : Prop := Dig p q ∧ NZ q ∧ Dig p r ∧ NZ r ∧ r.length < b.length ∧ Md p (fun B => idx B a) (fun B => idx B b * idx B q + idx B r)
theorem IsDiv.cg {a b q r : List Int} (h : IsDiv p a b q r) : Cg p b (fun B => idx B a) r := ⟨h.2.2.1, h.2.2.2.1, h.2.2.2.2.1, fun B => idx B q, Ev.idx q, h.2.2.2.2.2⟩
theorem IsDiv.uniq (hp : p ∈ P61) {a b q r q' r' : List Int} (hb : Dig p b) (nb : NZ b) (h1 : IsDiv p a b q r) (h2 : IsDiv p a b q' r') : q = q' ∧ r = r' := by
  have hpb := P61_le p hp
  have er := Cg.uniq hp hb nb h1.cg h2.cg
  subst er
  refine ⟨?_, rfl⟩
  obtain ⟨dq, nq, dr, nr, lr, m1⟩ := h1
  obtain ⟨dq', nq', _, _, _, m2⟩ := h2
  obtain ⟨k, dk, nk, mk⟩ := ((Ev.idx q).sub (Ev.idx q')).norm (p := p) (by omega)
  have h : Md p (fun B => idx B b * idx B k) (fun B => idx B []) := by
    refine (mk.mulL (Ev.idx b)).trans ?_
    refine Md.trans (Md.of_eq (g := fun B => (idx B b * idx B q + idx B r) - (idx B b * idx B q' + idx B r)) fun B => by grind) ?_
    exact ((m1.symm.trans m2).sub (Md.refl (fun B => idx B b * idx B q' + idx B r))).trans (Md.of_eq fun B => by simp)
  have hk := small_mul hp hb nb dk nk (by simp; omega) h
  subst hk
  have h3 : Md p (fun B => idx B q) (fun B => idx B q') :=
    (Md.of_eq (g := fun B => (idx B q - idx B q') + idx B q') fun B => by omega).trans ((mk.symm.add (Md.refl (fun B => idx B q'))).trans (Md.of_eq fun B => by simp))
  exact cn_uniq (by omega) dq nq dq' nq' h3
open Classical in
noncomputable def dvP (p : Int) (a b : List Int) : List Int × List Int := if h : ∃ x : List Int × List Int, IsDiv p a b x.1 x.2 then Classical.choose h else ([], [])
theorem dvP_eq (hp : p ∈ P61) {a b q r : List Int} (hb : Dig p b) (nb : NZ b) (h : IsDiv p a b q r) : dvP p a b = (q, r) := by
  have ex : ∃ x : List Int × List Int, IsDiv p a b x.1 x.2 := ⟨(q, r), h⟩
  unfold dvP
  rw [dif_pos ex]
  obtain ⟨h1, h2⟩ := IsDiv.uniq hp hb nb (Classical.choose_spec ex) h
  exact Prod.ext h1 h2
/-! ### the one divisor -/
def Dv (p : Int) (g : List Int) (f : Int → Int) : Prop := ∃ k, Ev k ∧ Md p f (fun B => idx B g * k B)
def GC (p : Int) (a b g : List Int) : Prop := Dig p g ∧ NZ g ∧ (g = [] ∨ ∃ ys, g = ys ++ [1]) ∧ Dv p g (fun B => idx B a) ∧ Dv p g (fun B => idx B b) ∧ ∃ u v, Ev u ∧ Ev v ∧ Md p (fun B => idx B g) (fun B => u B * idx B a + v B * idx B b)
theorem GC.symm {a b g : List Int} (h : GC p a b g) : GC p b a g := by
  obtain ⟨h1, h2, h3, h4, h5, u, v, h6, h7, h8⟩ := h
  exact ⟨h1, h2, h3, h5, h4, v, u, h7, h6, h8.trans (Md.of_eq fun B => by omega)⟩
/-- what divides a and b divides g -/
theorem GC.dv {a b g d : List Int} (h : GC p a b g) (ha : Dv p d (fun B => idx B a)) (hb : Dv p d (fun B => idx B b)) : Dv p d (fun B => idx B g) := by
  obtain ⟨_, _, _, _, _, u, v, eu, ev, m⟩ := h
  obtain ⟨k, ek, mk⟩ := ha
  obtain ⟨l, el, ml⟩ := hb
  refine ⟨fun B => u B * k B + v B * l B, (eu.mul ek).add (ev.mul el), m.trans (((mk.mulL eu).add (ml.mulL ev)).trans (Md.of_eq fun B => by grind))⟩
theorem Dv.lists (hp : p ∈ P61) {g h : List Int} (hg : Dig p g) (ng : NZ g) (dh : Dv p h (fun B => idx B g)) : ∃ k, Dig p k ∧ NZ k ∧ g = mulC p h k := by
  have hb := P61_le p hp
  obtain ⟨f, ef, mf⟩ := dh
  obtain ⟨k, dk, nk, mk⟩ := ef.norm (p := p) (by omega)
  refine ⟨k, dk, nk, cn_uniq (by omega) hg ng (mulC_dig (by omega) _ _) (mulC_nz _ _ _) ?_⟩
  exact mf.trans (((mk.symm).mulL (Ev.idx h)).trans (mulC_md p h k).symm)
theorem GC.uniq (hp : p ∈ P61) {a b g h : List Int} (h1 : GC p a b g) (h2 : GC p a b h) : g = h := by
  have hb := P61_le p hp
  obtain ⟨k, dk, nk, ek⟩ := Dv.lists hp h1.1 h1.2.1 (h1.dv h2.2.2.2.1 h2.2.2.2.2.1)
  obtain ⟨l, dl, nl, el⟩ := Dv.lists hp h2.1 h2.2.1 (h2.dv h1.2.2.2.1 h1.2.2.2.2.1)
  rcases h1.2.2.1 with rfl | ⟨ys, rfl⟩
  · rw [el, mulC_nil (by omega) (.inl rfl)]
  rcases h2.2.2.1 with rfl | ⟨zs, rfl⟩
  · rw [ek, mulC_nil (by omega) (.inl rfl)]
  have k0 : k ≠ [] := fun e => by rw [e, mulC_nil (by omega) (.inr rfl)] at ek; simp at ek
  have l0 : l ≠ [] := fun e => by rw [e, mulC_nil (by omega) (.inr rfl)] at el; simp at el
  have lk := mulC_length hp h2.1 h2.2.1 dk nk (by simp) k0
  have ll := mulC_length hp h1.1 h1.2.1 dl nl (by simp) l0
  rw [← ek] at lk
  rw [← el] at ll
  simp at lk ll
  have l1 := List.length_pos_iff.mpr k0
  have l2 := List.length_pos_iff.mpr l0
  rcases NZ_end nk with rfl | ⟨ks, c, rfl, hc⟩
  · exact absurd rfl k0
  have : ks = [] := List.length_eq_zero_iff.mp (by simp at lk; omega)
  subst this
  have hcp := dig_last dk hc
  obtain ⟨ws, e1, e2⟩ := mulC_end hp (ys := zs) (zs := []) (x := 1) (y := c) (by omega) hcp
  rw [e1] at ek
  have hc1 : (1 : Int) = 1 * c % p := by
    have := congrArg List.getLast? ek
    simpa using this
  rw [Int.one_mul, Int.emod_eq_of_lt (by omega) hcp.2] at hc1
  subst hc1
  refine cn_uniq (by omega) h1.1 h1.2.1 h2.1 h2.2.1 ?_
  rw [ek, ← e1]
  exact (mulC_md p _ _).trans (Md.of_eq fun B => by simp)
/-- a step of the divisions -/
theorem GC.step {a b q r g : List Int} (d : IsDiv p a b q r) : GC p a b g ↔ GC p b r g := by
  obtain ⟨_, _, _, _, _, m⟩ := d
  constructor
  · rintro ⟨h1, h2, h3, ⟨k, ek, mk⟩, ⟨l, el, ml⟩, u, v, eu, ev, mg⟩
    refine ⟨h1, h2, h3, ⟨l, el, ml⟩, ⟨fun B => k B - l B * idx B q, ek.sub (el.mul (Ev.idx q)), ?_⟩, fun B => u B * idx B q + v B, u, (eu.mul (Ev.idx q)).add ev, eu, ?_⟩
    · refine Md.trans (Md.of_eq (g := fun B => (idx B b * idx B q + idx B r) - idx B b * idx B q) fun B => by omega) ?_
      exact ((m.symm.trans mk).sub (ml.mulR (Ev.idx q))).trans (Md.of_eq fun B => by grind)
    · exact mg.trans (((m.mulL eu).add (Md.refl (fun B => v B * idx B b))).trans (Md.of_eq fun B => by grind))
  · rintro ⟨h1, h2, h3, ⟨k, ek, mk⟩, ⟨l, el, ml⟩, u, v, eu, ev, mg⟩
    refine ⟨h1, h2, h3, ⟨fun B => k B * idx B q + l B, (ek.mul (Ev.idx q)).add el, ?_⟩, ⟨k, ek, mk⟩, v, fun B => u B - v B * idx B q, ev, eu.sub (ev.mul (Ev.idx q)), ?_⟩
    · exact m.trans (((mk.mulR (Ev.idx q)).add ml).trans (Md.of_eq fun B => by grind))
    · refine mg.trans ?_
      refine Md.trans ?_ (((m.symm.mulL ev).add (Md.refl (fun B => (u B - v B * idx B q) * idx B b))))
      exact Md.of_eq fun B => by grind
/-- the monic one -/
noncomputable def monP (p : Int) (a : List Int) : List Int := cn p (a.map (invI p (a.getLastD 0) * ·))
theorem GC.mon (hp : p ∈ P61) {a : List Int} (ha : Dig p a) (na : NZ a) : GC p a [] (monP p a) := by
  have hb := P61_le p hp
  have md : Md p (fun B => idx B (monP p a)) (fun B => invI p (a.getLastD 0) * idx B a) := (cn_md p _).trans (Md.of_eq fun B => idx_smul B _ a)
  rcases NZ_end na with rfl | ⟨ys, x, rfl, hx⟩
  · refine ⟨cn_dig (by omega) _, cn_nz _ _, .inl rfl, ⟨fun _ => 0, Ev.const 0, Md.of_eq fun B => by simp⟩, ⟨fun _ => 0, Ev.const 0, Md.of_eq fun B => by simp⟩, fun _ => 0, fun _ => 0, Ev.const 0, Ev.const 0, Md.of_eq fun B => by simp [monP, cn, trimI]⟩
  have hxp := dig_last ha hx
  obtain ⟨h1, h2, h3, _⟩ := invI_ok hp hxp.1 hxp.2
  have el : (ys ++ [x]).getLastD 0 = x := by simp
  rw [el] at md
  refine ⟨cn_dig (by omega) _, cn_nz _ _, .inr ⟨ys.map fun y => invI p x * y % p, ?_⟩, ⟨fun _ => x, Ev.const x, ?_⟩, ⟨fun _ => 0, Ev.const 0, Md.of_eq fun B => by simp⟩, fun _ => invI p x, fun _ => 0, Ev.const _, Ev.const 0, md.trans (Md.of_eq fun B => by simp)⟩
  · rw [monP, el, cn, List.map_append, List.map_append, List.map_singleton, List.map_singleton, show invI p x * x % p = 1 by rw [Int.mul_comm]; exact h1, trimI_ne _ (by decide), List.map_map]
    rfl
  · have hq : x * invI p x = 1 + p * (x * invI p x / p) := by
      have := Int.emod_add_mul_ediv (x * invI p x) p
      omega
    refine Md.symm ((md.mulR (Ev.const x)).trans ⟨fun B => (x * invI p x / p) * idx B (ys ++ [x]), (Ev.const _).mul (Ev.idx _), fun B => ?_⟩)
    show invI p x * idx B (ys ++ [x]) * x = idx B (ys ++ [x]) + p * ((x * invI p x / p) * idx B (ys ++ [x]))
    have : invI p x * idx B (ys ++ [x]) * x = (x * invI p x) * idx B (ys ++ [x]) := by grind
    rw [this]
    generalize x * invI p x / p = y at hq
    rw [hq]
    grind
end
end Lib


set_option Elab.async false
set_option linter.all false
set_option maxRecDepth 100000
set_option maxHeartbeats 4000000
/-! Newton's sums by the powers of the table of a polynomial. -/
namespace NW

def sg (f : Nat → Int) : Nat → Int
  | 0 => 0
  | n + 1 => sg f n + f n
theorem sg_congr {f g : Nat → Int} : ∀ {n : Nat}, (∀ i, i < n → f i = g i) → sg f n = sg g n
  | 0, _ => rfl
  | n + 1, h => by rw [sg, sg, sg_congr (n := n) fun i hi => h i (by omega), h n (by omega)]
theorem sg_add (f g : Nat → Int) : ∀ n, sg (fun i => f i + g i) n = sg f n + sg g n
  | 0 => rfl
  | n + 1 => by rw [sg, sg, sg, sg_add f g n]; omega
theorem sg_mul (f : Nat → Int) (c : Int) : ∀ n, sg (fun i => f i * c) n = sg f n * c
  | 0 => by simp [sg]
  | n + 1 => by rw [sg, sg, sg_mul f c n, Int.add_mul]
theorem sg_sub (f g : Nat → Int) : ∀ n, sg (fun i => f i - g i) n = sg f n - sg g n
  | 0 => rfl
  | n + 1 => by rw [sg, sg, sg, sg_sub f g n]; omega
theorem sg_zero {f : Nat → Int} : ∀ {n : Nat}, (∀ i, i < n → f i = 0) → sg f n = 0
  | 0, _ => rfl
  | n + 1, h => by rw [sg, sg_zero (n := n) fun i hi => h i (by omega), h n (by omega)]; rfl
theorem sg_const {f : Nat → Int} {c : Int} : ∀ {n : Nat}, (∀ i, i < n → f i = c) → sg f n = n * c
  | 0, _ => by simp [sg]
  | n + 1, h => by
    rw [sg, sg_const (n := n) fun i hi => h i (by omega), h n (by omega), show ((n + 1 : Nat) : Int) = (n : Int) + 1 by omega, Int.add_mul, Int.one_mul]
theorem sg_swap (f : Nat → Nat → Int) (m : Nat) : ∀ n, sg (fun i => sg (f i) m) n = sg (fun k => sg (fun i => f i k) n) m
  | 0 => (sg_zero fun _ _ => rfl).symm
  | n + 1 => by
    rw [sg, sg_swap f m n, ← sg_add]
    rfl
theorem sg_split (f : Nat → Int) (n : Nat) : ∀ m, sg f (n + m) = sg f n + sg (fun i => f (n + i)) m
  | 0 => by simp [sg]
  | m + 1 => by
    rw [← Nat.add_assoc, sg, sg, sg_split f n m]
    omega
/-- the first one apart -/
theorem sg_head (f : Nat → Int) (n : Nat) : sg f (n + 1) = f 0 + sg (fun i => f (i + 1)) n := by
  rw [Nat.add_comm, sg_split f 1 n]
  simp [sg]
  exact sg_congr fun i _ => by rw [Nat.add_comm]
/-- one only -/
theorem sg_one {f : Nat → Int} {j : Nat} : ∀ {n : Nat}, j < n → (∀ i, i < n → i ≠ j → f i = 0) → sg f n = f j
  | n + 1, hj, h => by
    rw [sg]
    by_cases e : j = n
    · subst e
      rw [sg_zero fun i hi => h i (by omega) (by omega)]
      omega
    · rw [sg_one (n := n) (by omega) fun i hi hn => h i (by omega) hn, h n (by omega) (Ne.symm e)]
      omega
/-- turned round -/
theorem sg_rev (f : Nat → Int) : ∀ n, sg f n = sg (fun i => f (n - 1 - i)) n
  | 0 => rfl
  | n + 1 => by
    rw [sg_head (fun i => f (n + 1 - 1 - i)), sg, sg_rev f n]
    rw [show n + 1 - 1 - 0 = n by omega, sg_congr (f := fun i => f (n + 1 - 1 - (i + 1))) (g := fun i => f (n - 1 - i)) fun i hi => by congr 1; omega]
    omega

section
variable (m : Nat) (a : Nat → Int)
/-- what x to the n leaves by the polynomial x^m + a 1 x^(m - 1) + .. + a m, its number at x^j -/
def R : Nat → Nat → Int
  | 0, j => if j = 0 then 1 else 0
  | n + 1, j => (if j = 0 then 0 else R n (j - 1)) - R n (m - 1) * a (m - j)
def tr (n : Nat) : Int := sg (fun k => R m a (n + k) k) m
variable {m a}
theorem R_low : ∀ {n j : Nat}, n < m → j < m → R m a n j = if j = n then 1 else 0
  | 0, j, _, _ => rfl
  | n + 1, j, hn, hj => by
    have h1 : R m a n (m - 1) = 0 := by rw [R_low (n := n) (by omega) (by omega), if_neg (by omega)]
    rw [R, h1]
    by_cases e : j = 0
    · rw [if_pos e, if_neg (by omega)]; simp
    · rw [if_neg e, R_low (n := n) (by omega) (by omega)]
      by_cases e2 : j = n + 1
      · rw [if_pos (by omega), if_pos e2]; simp
      · rw [if_neg (by omega), if_neg e2]; simp
theorem R_rec (hm : 0 < m) (a0 : a 0 = 1) : ∀ (n : Nat) {j : Nat}, j < m → sg (fun i => a i * R m a (n + m - i) j) (m + 1) = 0
  | 0, j, hj => by
    rw [sg_head]
    have h1 : sg (fun i => a (i + 1) * R m a (0 + m - (i + 1)) j) m = a (m - j) := by
      rw [sg_one (j := m - 1 - j) (by omega) fun i hi hn => by rw [R_low (by omega) hj, if_neg (by omega)]; simp]
      rw [R_low (by omega) hj, if_pos (by omega), show m - 1 - j + 1 = m - j by omega]
      simp
    rw [h1, a0, show 0 + m - 0 = (m - 1) + 1 by omega, R, R_low (n := m - 1) (j := m - 1) (by omega) (by omega), if_pos rfl]
    by_cases e : j = 0
    · rw [if_pos e]; omega
    · rw [if_neg e, R_low (by omega) (by omega), if_neg (by omega)]; omega
  | n + 1, j, hj => by
    have e : sg (fun i => a i * R m a (n + 1 + m - i) j) (m + 1) = sg (fun i => a i * (if j = 0 then 0 else R m a (n + m - i) (j - 1)) - (a i * R m a (n + m - i) (m - 1)) * a (m - j)) (m + 1) := sg_congr fun i hi => by
      rw [show n + 1 + m - i = (n + m - i) + 1 by omega, R, Int.mul_sub, Int.mul_assoc]
    rw [e, sg_sub, sg_mul (fun i => a i * R m a (n + m - i) (m - 1)), R_rec hm a0 n (j := m - 1) (by omega)]
    by_cases e : j = 0
    · rw [sg_zero fun i hi => by rw [if_pos e]; simp]; simp
    · rw [sg_congr (g := fun i => a i * R m a (n + m - i) (j - 1)) fun i hi => by rw [if_neg e], R_rec hm a0 n (j := j - 1) (by omega)]; simp
theorem tr_zero (hm : 0 < m) : tr m a 0 = m := by
  unfold tr
  rw [sg_const (c := 1) fun k hk => by rw [Nat.zero_add, R_low hk hk, if_pos rfl]]
  simp
/-- behind the degree -/
theorem newton_hi (hm : 0 < m) (a0 : a 0 = 1) {n : Nat} (h : m ≤ n) : sg (fun i => a i * tr m a (n - i)) (m + 1) = 0 := by
  have e : sg (fun i => a i * tr m a (n - i)) (m + 1) = sg (fun i => sg (fun k => a i * R m a (n - i + k) k) m) (m + 1) := sg_congr fun i hi => by
    unfold tr
    rw [Int.mul_comm, ← sg_mul]
    exact sg_congr fun k hk => Int.mul_comm _ _
  rw [e, sg_swap]
  refine sg_zero fun k hk => ?_
  have := R_rec (m := m) (a := a) hm a0 (n - m + k) (j := k) hk
  rw [← this]
  exact sg_congr fun i hi => by rw [show n - i + k = n - m + k + m - i by omega]
/-- below it -/
theorem newton_lo (hm : 0 < m) (a0 : a 0 = 1) {n : Nat} (h0 : 0 < n) (h : n < m) : sg (fun i => a i * tr m a (n - i)) n = -(n * a n) := by
  have hk : ∀ k, k < m → sg (fun i => a i * R m a (n - i + k) k) (n + 1) = if k < m - n then a n else 0 := fun k hk => by
    by_cases e : k < m - n
    · rw [if_pos e, sg_one (j := n) (by omega) fun i hi hn => by rw [R_low (by omega) hk, if_neg (by omega)]; simp]
      rw [R_low (by omega) hk, if_pos (by omega)]
      simp
    · rw [if_neg e]
      have h1 := R_rec (m := m) (a := a) hm a0 (k + n - m) (j := k) hk
      rw [show m + 1 = (n + 1) + (m - n) by omega, sg_split] at h1
      rw [sg_zero (f := fun i => a (n + 1 + i) * R m a (k + n - m + m - (n + 1 + i)) k) fun i hi => by rw [R_low (by omega) hk, if_neg (by omega)]; simp] at h1
      rw [← Int.add_zero (sg (fun i => a i * R m a (n - i + k) k) (n + 1)), ← h1]
      congr 1
      exact sg_congr fun i hi => by rw [show n - i + k = k + n - m + m - i by omega]
  have e : sg (fun i => a i * tr m a (n - i)) (n + 1) = (m - n : Nat) * a n := by
    rw [sg_congr (g := fun i => sg (fun k => a i * R m a (n - i + k) k) m) fun i hi => by
      unfold tr
      rw [Int.mul_comm, ← sg_mul]
      exact sg_congr fun k hk => Int.mul_comm _ _]
    rw [sg_swap, sg_congr hk, show m = (m - n) + n by omega, sg_split, show m - n + n - n = m - n by omega]
    rw [sg_const (c := a n) fun i hi => by rw [if_pos hi], sg_zero fun i hi => by rw [if_neg (by omega)]]
    omega
  rw [sg, Nat.sub_self, tr_zero hm] at e
  have h2 : ((m - n : Nat) : Int) * a n = m * a n - n * a n := by
    rw [show ((m - n : Nat) : Int) = (m : Int) - n by omega, Int.sub_mul]
  rw [h2, Int.mul_comm (m : Int)] at e
  omega
/-- both at once, as it is worked out -/
theorem newton (hm : 0 < m) (a0 : a 0 = 1) {n : Nat} (h0 : 0 < n) : -tr m a n = (if n < m + 1 then n * a n else 0) - sg (fun i => -tr m a (n - (i + 1)) * a (i + 1)) (min n (m + 1) - 1) := by
  have neg : ∀ k, sg (fun i => -tr m a (n - (i + 1)) * a (i + 1)) k = -sg (fun i => a (i + 1) * tr m a (n - (i + 1))) k := fun k => by
    rw [sg_congr (g := fun i => (a (i + 1) * tr m a (n - (i + 1))) * (-1)) fun i hi => by rw [Int.mul_neg_one, Int.neg_mul, Int.mul_comm], sg_mul]
    omega
  rw [neg]
  by_cases c : n < m
  · have h1 := newton_lo (m := m) (a := a) hm a0 h0 c
    obtain ⟨k, rfl⟩ : ∃ k, n = k + 1 := ⟨n - 1, by omega⟩
    rw [sg_head, a0, Nat.sub_zero] at h1
    rw [if_pos (by omega), show min (k + 1) (m + 1) - 1 = k by omega]
    omega
  · have h1 := newton_hi (m := m) (a := a) hm a0 (n := n) (by omega)
    rw [sg_head, a0, Nat.sub_zero] at h1
    by_cases c2 : n = m
    · obtain ⟨k, rfl⟩ : ∃ k, n = k + 1 := ⟨n - 1, by omega⟩
      subst c2
      rw [sg, Nat.sub_self, tr_zero hm] at h1
      rw [if_pos (by omega), show min (k + 1) (k + 1 + 1) - 1 = k by omega, Int.mul_comm]
      omega
    · rw [if_neg (by omega), show min n (m + 1) - 1 = m by omega]
      omega
end
end NW


set_option Elab.async false
set_option linter.all false
set_option maxRecDepth 100000
set_option maxHeartbeats 8000000
namespace K05
open PySem PySem.Spec PyProof.Rows L2 Evl Q4 Lib
def topS (i : Nat) : Stmt := PySem.Challenge.pw_poleheaps_k05_prime_polynomials.main.body.getD i (.Pass ⟨0, 0, 0, 0⟩)
structure Zs (mg : Str → Option Value) : Prop where
  list_ : mg "list" = none
  int_ : mg "int" = none
  tuple_ : mg "tuple" = none
  enumerate_ : mg "enumerate" = none
  len_ : mg "len" = none
  range_ : mg "range" = none
  abs_ : mg "abs" = none
  repr_ : mg "repr" = none
  max_ : mg "max" = none
  any_ : mg "any" = none
  sorted_ : mg "sorted" = none
  sum_ : mg "sum" = none
  LISTED_MOST_g : ∃ t, mg "LISTED_MOST" = some (.int 5000 t)

abbrev s_law_deck : Stmt := topS 17
theorem sc_law_deck : FnScope ["script", "seed", "cell"] ["script"] (defScope s_law_deck) := ⟨rfl, rfl, rfl, by decide +kernel, rfl, by decide +kernel, by decide +kernel⟩
abbrev s_raised : Stmt := topS 4
theorem sc_raised : FnScope ["a", "e", "found"] ["a", "e"] (defScope s_raised) := ⟨rfl, rfl, rfl, by decide +kernel, rfl, by decide +kernel, by decide +kernel⟩
noncomputable def m_raised : M Fl := (mSeq (mAsg (mC (.int 1)) (gN 2))
  (mSeq (mWhile (mTest (mBin dGt (mVar 1) (mC (.int 0)))) (mSeq (mIfS (mTest (mBin dEqX (mBin dMod (mVar 1) (mC (.int 2))) (mC (.int 1)))) (mSeq (mAug 2 dMulI (mVar 0))
  mNx) mNx)
  (mSeq (mAug 1 dIFdiv (mC (.int 2)))
  (mSeq (mIfS (mTest (mBin dGt (mVar 1) (mC (.int 0)))) (mSeq (mAug 0 dMulI (mVar 0))
  mNx) mNx)
  mNx))))
  (mSeq (mRetV 2)
  mNx)))
noncomputable def f_raised : FM := fnM 3 [] m_raised
abbrev s_of_index : Stmt := topS 12
theorem sc_of_index : FnScope ["p", "n", "found"] ["p", "n"] (defScope s_of_index) := ⟨rfl, rfl, rfl, by decide +kernel, rfl, by decide +kernel, by decide +kernel⟩
abbrev s_index : Stmt := topS 11
theorem sc_index : FnScope ["p", "a", "found", "item"] ["p", "a"] (defScope s_index) := ⟨rfl, rfl, rfl, by decide +kernel, rfl, by decide +kernel, by decide +kernel⟩
abbrev s_trimmed : Stmt := topS 10
theorem sc_trimmed : FnScope ["p", "items", "found", "item"] ["p", "items"] (defScope s_trimmed) := ⟨rfl, rfl, rfl, by decide +kernel, rfl, by decide +kernel, by decide +kernel⟩
abbrev s_product : Stmt := topS 13
theorem sc_product : FnScope ["p", "a", "b", "found", "place", "item", "more", "other"] ["p", "a", "b"] (defScope s_product) := ⟨rfl, rfl, rfl, by decide +kernel, rfl, by decide +kernel, by decide +kernel⟩
abbrev s_prime_polynomials : Stmt := topS 15
theorem sc_prime_polynomials : FnScope ["p", "m", "many", "parted", "low", "first", "one", "second", "other", "place", "is_parted"] ["p", "m"] (defScope s_prime_polynomials) := ⟨rfl, rfl, rfl, by decide +kernel, rfl, by decide +kernel, by decide +kernel⟩
noncomputable def m_prime_polynomials : M Fl := (mSeq (mAsg (mFn f_raised [] (mCons (mVar 0) (mCons (mVar 1) mNil))) (gN 2))
  (mSeq (mIfS (mTest (mBin dGt (mVar 2) (mC (.int 5000)))) (mSeq (mRaise "TooMany" (mVar 2))
  mNx) mNx)
  (mSeq (mAsgL 3 (mBinL dRep (mFz (mLst (mCons (mC (.bl false)) mNil))) (mVar 2)))
  (mSeq (mFor (mRng2 (mCons (mC (.int 1)) (mCons (mBin dAddX (mBin dFdiv (mVar 1) (mC (.int 2))) (mC (.int 1))) mNil))) (gN 4) (mSeq (mFor (mRng1 (mCons (mFn f_raised [] (mCons (mVar 0) (mCons (mVar 4) mNil))) mNil)) (gN 5) (mSeq (mAsg (mFn f_of_index [] (mCons (mVar 0) (mCons (mBin dAddX (mFn f_raised [] (mCons (mVar 0) (mCons (mVar 4) mNil))) (mVar 5)) mNil))) (gN 6))
  (mSeq (mFor (mRng1 (mCons (mFn f_raised [] (mCons (mVar 0) (mCons (mBin dSub (mVar 1) (mVar 4)) mNil))) mNil)) (gN 7) (mSeq (mAsg (mFn f_of_index [] (mCons (mVar 0) (mCons (mBin dAddX (mFn f_raised [] (mCons (mVar 0) (mCons (mBin dSub (mVar 1) (mVar 4)) mNil))) (mVar 7)) mNil))) (gN 8))
  (mSeq (mSetIx 3 (mBin dSub (mFn f_index [] (mCons (mVar 0) (mCons (mFn f_product [] (mCons (mVar 0) (mCons (mVar 6) (mCons (mVar 8) mNil)))) mNil))) (mVar 2)) (mC (.bl true)))
  mNx)))
  mNx)))
  mNx))
  (mSeq (mRetL (mComp (mEnum (mVar 3)) [9, 10] (gT 2 (gsC (gN 9) (gsC (gN 10) gs0))) (mNotT (mTruV 10)) (mFn f_of_index [] (mCons (mVar 0) (mCons (mBin dAddX (mVar 2) (mVar 9)) mNil)))))
  mNx)))))
noncomputable def f_prime_polynomials : FM := fnM 11 [] m_prime_polynomials
abbrev s_law_draw : Stmt := topS 18
theorem sc_law_draw : FnScope ["deck", "bound", "number", "value"] ["deck", "bound"] (defScope s_law_draw) := ⟨rfl, rfl, rfl, by decide +kernel, rfl, by decide +kernel, by decide +kernel⟩
abbrev s_law_is : Stmt := topS 19
theorem sc_law_is : FnScope ["value", "due"] ["value", "due"] (defScope s_law_is) := ⟨rfl, rfl, rfl, by decide +kernel, rfl, by decide +kernel, by decide +kernel⟩
abbrev s_law_monics : Stmt := topS 23
theorem sc_law_monics : FnScope ["p", "m", "found", "turn", "longer", "row", "x"] ["p", "m"] (defScope s_law_monics) := ⟨rfl, rfl, rfl, by decide +kernel, rfl, by decide +kernel, by decide +kernel⟩
noncomputable def m_law_monics : M Fl := (mSeq (mAsg (mFz (mLst (mCons (mTup (mCons (mC (.int 1)) mNil)) mNil))) (gN 2))
  (mSeq (mFor (mRng1 (mCons (mVar 1) mNil)) (gN 3) (mSeq (mAsg (mFz (mLst mNil)) (gN 4))
  (mSeq (mFor (mItems (mVar 2)) (gN 5) (mSeq (mAsg (mBin dAddX (mVar 4) (mFz (mComp (mRng1 (mCons (mVar 0) mNil)) [6] (gN 6) mYes (mBin dAddX (mTup (mCons (mVar 6) mNil)) (mVar 5))))) (gN 4))
  mNx))
  (mSeq (mAsg (mVar 4) (gN 2))
  mNx))))
  (mSeq (mRetV 2)
  mNx)))
noncomputable def f_law_monics : FM := fnM 7 [] m_law_monics
abbrev s_law_told : Stmt := topS 25
theorem sc_law_told : FnScope ["p", "m", "error"] ["p", "m"] (defScope s_law_told) := ⟨rfl, rfl, rfl, by decide +kernel, rfl, by decide +kernel, by decide +kernel⟩
noncomputable def m_law_told : M Fl := (mSeq (mTryP "TooMany" 2 (mSeq (mRet (mFn f_prime_polynomials [] (mCons (mVar 0) (mCons (mVar 1) mNil))))
  mNx))
  mNx)
noncomputable def f_law_told : FM := fnM 3 [] m_law_told
abbrev s_law_inv : Stmt := topS 21
theorem sc_law_inv : FnScope ["p", "a", "x"] ["p", "a"] (defScope s_law_inv) := ⟨rfl, rfl, rfl, by decide +kernel, rfl, by decide +kernel, by decide +kernel⟩
abbrev s_law_trim : Stmt := topS 20
theorem sc_law_trim : FnScope ["p", "items", "found", "item"] ["p", "items"] (defScope s_law_trim) := ⟨rfl, rfl, rfl, by decide +kernel, rfl, by decide +kernel, by decide +kernel⟩
abbrev s_law_div : Stmt := topS 22
theorem sc_law_div : FnScope ["p", "a", "b", "rest", "found", "turn", "k", "j"] ["p", "a", "b"] (defScope s_law_div) := ⟨rfl, rfl, rfl, by decide +kernel, rfl, by decide +kernel, by decide +kernel⟩
noncomputable def m_law_div : M Fl := (mSeq (mAsgL 3 (mCallL dList (mCons (mVar 1) mNil)))
  (mSeq (mAsgL 4 (mBinL dRep (mFz (mLst (mCons (mC (.int 0)) mNil))) (mCall dMax2 (mCons (mC (.int 0)) (mCons (mBin dAddX (mBin dSub (mLenV 1) (mLenV 2)) (mC (.int 1))) mNil)))))
  (mSeq (mAsg (mFn f_law_inv [] (mCons (mVar 0) (mCons (mIxV 2 (mUn dNeg (mC (.int 1)))) mNil))) (gN 5))
  (mSeq (mFor (mRng3 (mCons (mBin dSub (mLenV 1) (mLenV 2)) (mCons (mUn dNeg (mC (.int 1))) (mCons (mUn dNeg (mC (.int 1))) mNil)))) (gN 6) (mSeq (mSetIx 4 (mVar 6) (mBin dMod (mCall dInt1 (mCons (mBin dMulX (mIxV 3 (mBin dSub (mBin dAddX (mVar 6) (mLenV 2)) (mC (.int 1)))) (mVar 5)) mNil)) (mVar 0)))
  (mSeq (mFor (mRng1 (mCons (mLenV 2) mNil)) (gN 7) (mSeq (mSetIx 3 (mBin dAddX (mVar 6) (mVar 7)) (mBin dSub (mIxV 3 (mBin dAddX (mVar 6) (mVar 7))) (mBin dMulX (mIxV 4 (mVar 6)) (mIxV 2 (mVar 7)))))
  mNx))
  mNx)))
  (mSeq (mRet (mTup (mCons (mFn f_law_trim [] (mCons (mVar 0) (mCons (mVar 4) mNil))) (mCons (mFn f_law_trim [] (mCons (mVar 0) (mCons (mVar 3) mNil))) mNil))))
  mNx)))))
noncomputable def f_law_div : FM := fnM 8 [] m_law_div
abbrev s_law_parted : Stmt := topS 24
theorem sc_law_parted : FnScope ["p", "a", "m", "one"] ["p", "a"] (defScope s_law_parted) := ⟨rfl, rfl, rfl, by decide +kernel, rfl, by decide +kernel, by decide +kernel⟩
noncomputable def m_law_parted : M Fl := (mSeq (mFor (mRng2 (mCons (mC (.int 1)) (mCons (mBin dAddX (mBin dFdiv (mBin dSub (mLenV 1) (mC (.int 1))) (mC (.int 2))) (mC (.int 1))) mNil))) (gN 2) (mSeq (mFor (mItems (mFn f_law_monics [] (mCons (mVar 0) (mCons (mVar 2) mNil)))) (gN 3) (mSeq (mIfS (mTest (mBin dEqX (mBin dIx (mFn f_law_div [] (mCons (mVar 0) (mCons (mVar 1) (mCons (mVar 3) mNil)))) (mC (.int 1))) (mTup mNil))) (mSeq (mRet (mC (.bl true)))
  mNx) mNx)
  mNx))
  mNx))
  (mSeq (mRet (mC (.bl false)))
  mNx))
noncomputable def f_law_parted : FM := fnM 4 [] m_law_parted
abbrev s_primes_of : Stmt := topS 5
theorem sc_primes_of : FnScope ["n", "found", "prime", "count"] ["n"] (defScope s_primes_of) := ⟨rfl, rfl, rfl, by decide +kernel, rfl, by decide +kernel, by decide +kernel⟩
noncomputable def m_primes_of : M Fl := (mSeq (mAsgL 1 (mLst mNil))
  (mSeq (mAsg (mC (.int 2)) (gN 2))
  (mSeq (mWhile (mTest (mBin dLe (mBin dMulX (mVar 2) (mVar 2)) (mVar 0))) (mSeq (mAsg (mC (.int 0)) (gN 3))
  (mSeq (mWhile (mTest (mBin dEqX (mBin dMod (mVar 0) (mVar 2)) (mC (.int 0)))) (mSeq (mAug 0 dIFdiv (mVar 2))
  (mSeq (mAug 3 dAddI (mC (.int 1)))
  mNx)))
  (mSeq (mIfS (mTest (mBin dGt (mVar 3) (mC (.int 0)))) (mSeq (mApp 1 (mTup (mCons (mVar 2) (mCons (mVar 3) mNil))))
  mNx) mNx)
  (mSeq (mAug 2 dAddI (mIf (mTest (mBin dEqX (mVar 2) (mC (.int 2)))) (mC (.int 1)) (mC (.int 2))))
  mNx)))))
  (mSeq (mIfS (mTest (mBin dGt (mVar 0) (mC (.int 1)))) (mSeq (mApp 1 (mTup (mCons (mVar 0) (mCons (mC (.int 1)) mNil))))
  mNx) mNx)
  (mSeq (mRetV 1)
  mNx)))))
noncomputable def f_primes_of : FM := fnM 4 [] m_primes_of
abbrev s_mu : Stmt := topS 7
theorem sc_mu : FnScope ["n", "pairs", "_", "count"] ["n"] (defScope s_mu) := ⟨rfl, rfl, rfl, by decide +kernel, rfl, by decide +kernel, by decide +kernel⟩
noncomputable def m_mu : M Fl := (mSeq (mAsg (mFn f_primes_of [] (mCons (mVar 0) mNil)) (gN 1))
  (mSeq (mIfS (mTru (mCall dAny (mCons (mFz (mComp (mItems (mVar 1)) [2, 3] (gT 2 (gsC (gN 2) (gsC (gN 3) gs0))) mYes (mBin dGt (mVar 3) (mC (.int 1))))) mNil))) (mSeq (mRet (mC (.int 0)))
  mNx) mNx)
  (mSeq (mRet (mBin dSub (mC (.int 1)) (mBin dMulX (mC (.int 2)) (mBin dMod (mLenV 1) (mC (.int 2))))))
  mNx)))
noncomputable def f_mu : FM := fnM 4 [] m_mu
abbrev s_divisors : Stmt := topS 6
theorem sc_divisors : FnScope ["n", "found", "prime", "count", "part", "number"] ["n"] (defScope s_divisors) := ⟨rfl, rfl, rfl, by decide +kernel, rfl, by decide +kernel, by decide +kernel⟩
noncomputable def m_divisors : M Fl := (mSeq (mAsg (mFz (mLst (mCons (mC (.int 1)) mNil))) (gN 1))
  (mSeq (mFor (mItems (mFn f_primes_of [] (mCons (mVar 0) mNil))) (gT 2 (gsC (gN 2) (gsC (gN 3) gs0))) (mSeq (mAsgL 1 (mComp2 (mItems (mVar 1)) [4, 5] (gN 4) mYes (mRng1 (mCons (mBin dAddX (mVar 3) (mC (.int 1))) mNil)) [5] (gN 5) mYes (mBin dMulX (mVar 4) (mFn f_raised [] (mCons (mVar 2) (mCons (mVar 5) mNil))))))
  mNx))
  (mSeq (mRetL (mCallL dSorted (mCons (mVar 1) mNil)))
  mNx)))
noncomputable def f_divisors : FM := fnM 6 [] m_divisors
abbrev s_prime_count : Stmt := topS 14
theorem sc_prime_count : FnScope ["p", "m", "part"] ["p", "m"] (defScope s_prime_count) := ⟨rfl, rfl, rfl, by decide +kernel, rfl, by decide +kernel, by decide +kernel⟩
noncomputable def m_prime_count : M Fl := (mSeq (mRet (mBin dFdiv (mCall dSum (mCons (mFz (mComp (mItems (mFn f_divisors [] (mCons (mVar 1) mNil))) [2] (gN 2) mYes (mBin dMulX (mFn f_mu [] (mCons (mVar 2) mNil)) (mFn f_raised [] (mCons (mVar 0) (mCons (mBin dFdiv (mVar 1) (mVar 2)) mNil)))))) mNil)) (mVar 1)))
  mNx)
noncomputable def f_prime_count : FM := fnM 3 [] m_prime_count
abbrev s_law : Stmt := topS 26
theorem sc_law : FnScope ["script", "deck", "p", "m", "due", "told", "n", "total", "power", "turn", "many", "one", "d"] ["script"] (defScope s_law) := ⟨rfl, rfl, rfl, by decide +kernel, rfl, by decide +kernel, by decide +kernel⟩
noncomputable def m_law : M Fl := (mSeq (mAsgL 1 (mFnL f_law_deck [] (mCons (mVar 0) mNil)))
  (mSeq (mAsg (mBin dIx (mFz (mLst (mCons (mTup (mCons (mC (.int 3)) (mCons (mC (.int 1)) mNil))) (mCons (mTup (mCons (mC (.int 3)) (mCons (mC (.int 2)) mNil))) (mCons (mTup (mCons (mC (.int 3)) (mCons (mC (.int 3)) mNil))) (mCons (mTup (mCons (mC (.int 3)) (mCons (mC (.int 4)) mNil))) (mCons (mTup (mCons (mC (.int 5)) (mCons (mC (.int 1)) mNil))) (mCons (mTup (mCons (mC (.int 5)) (mCons (mC (.int 2)) mNil))) (mCons (mTup (mCons (mC (.int 5)) (mCons (mC (.int 3)) mNil))) (mCons (mTup (mCons (mC (.int 7)) (mCons (mC (.int 1)) mNil))) (mCons (mTup (mCons (mC (.int 7)) (mCons (mC (.int 2)) mNil))) (mCons (mTup (mCons (mC (.int 11)) (mCons (mC (.int 2)) mNil))) (mCons (mTup (mCons (mC (.int 13)) (mCons (mC (.int 1)) mNil))) (mCons (mTup (mCons (mC (.int 61)) (mCons (mC (.int 1)) mNil))) (mCons (mTup (mCons (mC (.int 3)) (mCons (mC (.int 5)) mNil))) mNil))))))))))))))) (mFnM 1 f_law_draw (mCons (mC (.int 13)) mNil))) (gT 2 (gsC (gN 2) (gsC (gN 3) gs0))))
  (mSeq (mAsgL 4 (mComp (mItems (mFn f_law_monics [] (mCons (mVar 2) (mCons (mVar 3) mNil)))) [11] (gN 11) (mNotT (mTru (mFn f_law_parted [] (mCons (mVar 2) (mCons (mVar 11) mNil))))) (mVar 11)))
  (mSeq (mAsgL 5 (mFnL f_prime_polynomials [] (mCons (mVar 2) (mCons (mVar 3) mNil))))
  (mSeq (mIfS (mLook (mNotT (mTru (mFn f_law_is [] (mCons (mFz (mLst (mCons (mVar 5) (mCons (mFn f_prime_count [] (mCons (mVar 2) (mCons (mVar 3) mNil))) mNil)))) (mCons (mFz (mLst (mCons (mVar 4) (mCons (mLenV 4) mNil)))) mNil)))))) (mSeq (mRet (mC (.bl false)))
  mNx) mNx)
  (mSeq (mApp 5 (mC (.str "spoilt")))
  (mSeq (mIfS (mNotT (mTru (mFn f_law_is [] (mCons (mFn f_prime_polynomials [] (mCons (mVar 2) (mCons (mVar 3) mNil))) (mCons (mVar 4) mNil))))) (mSeq (mRet (mC (.bl false)))
  mNx) mNx)
  (mSeq (mAsg (mBin dAddX (mC (.int 1)) (mFnM 1 f_law_draw (mCons (mC (.int 40)) mNil))) (gN 6))
  (mSeq (mAsg (mCall dSum (mCons (mFz (mComp (mRng2 (mCons (mC (.int 1)) (mCons (mBin dAddX (mVar 6) (mC (.int 1))) mNil))) [12] (gN 12) (mTest (mBin dEqX (mBin dMod (mCall dInt1 (mCons (mVar 6) mNil)) (mVar 12)) (mC (.int 0)))) (mBin dMulX (mVar 12) (mFn f_prime_count [] (mCons (mVar 2) (mCons (mVar 12) mNil)))))) mNil)) (gN 7))
  (mSeq (mAsg (mC (.int 1)) (gN 8))
  (mSeq (mFor (mRng1 (mCons (mVar 6) mNil)) (gN 9) (mSeq (mAsg (mBin dMulX (mVar 8) (mVar 2)) (gN 8))
  mNx))
  (mSeq (mAsg (mBin dIx (mFz (mLst (mCons (mTup (mCons (mC (.int 3)) (mCons (mC (.int 8)) (mCons (mC (.int 6561)) mNil)))) (mCons (mTup (mCons (mC (.int 5)) (mCons (mC (.int 6)) (mCons (mC (.int 15625)) mNil)))) (mCons (mTup (mCons (mC (.int 7)) (mCons (mC (.int 5)) (mCons (mC (.int 16807)) mNil)))) (mCons (mTup (mCons (mC (.int 61)) (mCons (mC (.int 3)) (mCons (mC (.int 226981)) mNil)))) (mCons (mTup (mCons (mC (.int 13)) (mCons (mC (.int 4)) (mCons (mC (.int 28561)) mNil)))) (mCons (mTup (mCons (mC (.int 17)) (mCons (mC (.int 4)) (mCons (mC (.int 83521)) mNil)))) mNil)))))))) (mFnM 1 f_law_draw (mCons (mC (.int 6)) mNil))) (gT 3 (gsC (gN 2) (gsC (gN 3) (gsC (gN 10) gs0)))))
  (mSeq (mRet (mAndV (mBin dEqX (mVar 7) (mVar 8)) (mFn f_law_is [] (mCons (mFn f_law_told [] (mCons (mVar 2) (mCons (mVar 3) mNil))) (mCons (mVar 10) mNil)))))
  mNx)))))))))))))
noncomputable def f_law : FM := fnM 13 [] m_law
section
variable {P : Program} {w : World} {K : PySem.W.Frag} {mg : Str → Option Value} {base : Heap}
theorem w_law_deck (z : Zs mg) {f : Addr} {fd : FuncData} (F : FunD K "_law_deck" "_law_deck" (defArgs s_law_deck) (defBody s_law_deck) (defScope s_law_deck) [] [] f fd) : FnG P w K mg base 1 f fd ["script"] [] f_law_deck := by
  refine fun_gD (k := 0) F sc_law_deck fun cdv A outer s H E hr hgd => ?_
  unfold m_law_deck
  exact (gs_cons (gs_asg 1 sc_law_deck.nd ge_int)
  (gs_cons (gs_for (passes_of rfl) (gi_seq (ge_var 0)) (gg_name 2 sc_law_deck.nd) (gs_cons (gs_asg 1 sc_law_deck.nd (ge_op op_mod od_mod (ge_callTy call_int1 cd_int1 z.int_ bt_int (ga_cons (ge_op op_addX od_addX (ge_op op_mulX od_mulX (ge_var 1) ge_int) (ge_var 2)) ga_nil)) ge_int))
  gs_nil))
  (gs_cons (gs_retL (gl_lst (ga_cons ge_int (ga_cons ge_int (ga_cons (ge_var 1) (ga_cons (ge_fz (gl_callTy call_list_of cl_list z.list_ bt_list (ga_cons (ge_var 0) ga_nil))) (ga_cons ge_int ga_nil)))))))
  gs_nil)))
theorem w_raised (z : Zs mg) {f : Addr} {fd : FuncData} (F : FunD K "raised" "raised" (defArgs s_raised) (defBody s_raised) (defScope s_raised) [] [] f fd) : FnG P w K mg base 1 f fd ["a", "e"] [] f_raised := by
  refine fun_gD (k := 0) F sc_raised fun cdv A outer s H E hr hgd => ?_
  unfold m_raised
  exact (gs_cons (gs_asg 2 sc_raised.nd ge_int)
  (gs_cons (gs_while (passes_of rfl) (gt_cmp op_gt (od_cmp _) (ge_var 1) ge_int (by rfl)) (gs_cons (gs_if (gt_cmp (op_eqX (uh hr)) od_eqX (ge_op op_mod od_mod (ge_var 1) ge_int) ge_int (by rfl)) (gs_cons (gs_aug 2 sc_raised.nd iop_mulW od_mulI (ge_var 0))
  gs_nil) gs_nil)
  (gs_cons (gs_aug 1 sc_raised.nd iop_fdiv od_ifdiv ge_int)
  (gs_cons (gs_if (gt_cmp op_gt (od_cmp _) (ge_var 1) ge_int (by rfl)) (gs_cons (gs_aug 0 sc_raised.nd iop_mulW od_mulI (ge_var 0))
  gs_nil) gs_nil)
  gs_nil))))
  (gs_cons (gs_retV 2)
  gs_nil)))
theorem w_of_index (z : Zs mg) {f : Addr} {fd : FuncData} (F : FunD K "of_index" "of_index" (defArgs s_of_index) (defBody s_of_index) (defScope s_of_index) [] [] f fd) : FnG P w K mg base 1 f fd ["p", "n"] [] f_of_index := by
  refine fun_gD (k := 0) F sc_of_index fun cdv A outer s H E hr hgd => ?_
  unfold m_of_index
  exact (gs_cons (gs_asgL 2 sc_of_index.nd (gl_lst ga_nil))
  (gs_cons (gs_while (passes_of rfl) (gt_cmp op_gt (od_cmp _) (ge_var 1) ge_int (by rfl)) (gs_cons (gs_app 2 (ge_op op_mod od_mod (ge_var 1) (ge_var 0)))
  (gs_cons (gs_aug 1 sc_of_index.nd iop_fdiv od_ifdiv (ge_var 0))
  gs_nil)))
  (gs_cons (gs_ret (ge_callTy call_tuple_of cd_tuple z.tuple_ bt_tuple (ga_cons (ge_var 2) ga_nil)))
  gs_nil)))
theorem w_index (z : Zs mg) {f : Addr} {fd : FuncData} (F : FunD K "index" "index" (defArgs s_index) (defBody s_index) (defScope s_index) [] [] f fd) : FnG P w K mg base 1 f fd ["p", "a"] [] f_index := by
  refine fun_gD (k := 0) F sc_index fun cdv A outer s H E hr hgd => ?_
  unfold m_index
  exact (gs_cons (gs_asg 2 sc_index.nd ge_int)
  (gs_cons (gs_for (passes_of rfl) (gi_seq (ge_step (ge_var 1) go_none go_none (go_some (ge_neg ge_int)))) (gg_name 3 sc_index.nd) (gs_cons (gs_asg 2 sc_index.nd (ge_op op_addX od_addX (ge_op op_mulX od_mulX (ge_var 2) (ge_var 0)) (ge_var 3)))
  gs_nil))
  (gs_cons (gs_retV 2)
  gs_nil)))
theorem w_trimmed (z : Zs mg) {f : Addr} {fd : FuncData} (F : FunD K "trimmed" "trimmed" (defArgs s_trimmed) (defBody s_trimmed) (defScope s_trimmed) [] [] f fd) : FnG P w K mg base 1 f fd ["p", "items"] [] f_trimmed := by
  refine fun_gD (k := 0) F sc_trimmed fun cdv A outer s H E hr hgd => ?_
  unfold m_trimmed
  exact (gs_cons (gs_asgC (own := [("item", 3)]) 2 sc_trimmed.nd (gi_seq (ge_var 1)) (blkOk_by (by kernel_rfl)) (fun s H C cl fp => (gg_name 3 sc_trimmed.nd)) (fun s H C cl fp => gts_nil) (fun s H C cl fp => (ge_op op_mod od_mod (ge_var 3) (ge_var 0))))
  (gs_cons (gs_while (passes_of rfl) (gt_bool (gw_and (gt_truV 2) (gw_and1 (gt_cmp (op_eqX (uh hr)) od_eqX (ge_ixV 2 (ge_neg ge_int)) ge_int (by rfl))))) (gs_cons (gs_expr (ge_pop 2))
  gs_nil))
  (gs_cons (gs_ret (ge_callTy call_tuple_of cd_tuple z.tuple_ bt_tuple (ga_cons (ge_var 2) ga_nil)))
  gs_nil)))
theorem w_product (z : Zs mg) (c_trimmed_2 : Cal4 P w K mg base 1 "trimmed" 2 [] f_trimmed []) {f : Addr} {fd : FuncData} (F : FunD K "product" "product" (defArgs s_product) (defBody s_product) (defScope s_product) [] [] f fd) : FnG P w K mg base 2 f fd ["p", "a", "b"] [] f_product := by
  refine fun_gD (k := 1) F sc_product fun cdv A outer s H E hr hgd => ?_
  unfold m_product
  exact (gs_cons (gs_if (gt_bool (gw_or (gt_not (gt_truV 1)) (gw_or1 (gt_not (gt_truV 2))))) (gs_cons (gs_ret (ge_tup ga_nil))
  gs_nil) gs_nil)
  (gs_cons (gs_asgL 3 sc_product.nd (gl_op op_rep ol_rep (ge_fz (gl_lst (ga_cons ge_int ga_nil))) (ge_op op_sub od_sub (ge_op op_addX od_addX (ge_lenV 1 z.len_) (ge_lenV 2 z.len_)) ge_int)))
  (gs_cons (gs_for (passes_of rfl) (gi_enum z.enumerate_ (ge_var 1)) (gg_tup (ggs_cons (gg_name 4 sc_product.nd) (ggs_cons (gg_name 5 sc_product.nd) ggs_nil))) (gs_cons (gs_for (passes_of rfl) (gi_enum z.enumerate_ (ge_var 2)) (gg_tup (ggs_cons (gg_name 6 sc_product.nd) (ggs_cons (gg_name 7 sc_product.nd) ggs_nil))) (gs_cons (gs_augIx 3 iop_add od_addI (ge_op op_addX od_addX (ge_var 4) (ge_var 6)) (ge_op op_mulX od_mulX (ge_var 5) (ge_var 7)))
  gs_nil))
  gs_nil))
  (gs_cons (gs_ret (ge_cal c_trimmed_2 hr (by decide) hgd (takes_of rfl rfl rfl rfl) (ga_cons (ge_var 0) (ga_cons (ge_var 3) ga_nil))))
  gs_nil))))
theorem w_prime_polynomials (z : Zs mg) (c_raised_2 : Cal4 P w K mg base 1 "raised" 2 [] f_raised []) (c_of_index_2 : Cal4 P w K mg base 1 "of_index" 2 [] f_of_index []) (c_index_2 : Cal4 P w K mg base 1 "index" 2 [] f_index []) (c_product_3 : Cal4 P w K mg base 2 "product" 3 [] f_product []) (e_TooMany : ErrG P w K mg base "TooMany") {f : Addr} {fd : FuncData} (F : FunD K "prime_polynomials" "prime_polynomials" (defArgs s_prime_polynomials) (defBody s_prime_polynomials) (defScope s_prime_polynomials) [] [] f fd) : FnG P w K mg base 4 f fd ["p", "m"] [] f_prime_polynomials := by
  obtain ⟨_, g_LISTED_MOST⟩ := z.LISTED_MOST_g
  refine fun_gD (k := 3) F sc_prime_polynomials fun cdv A outer s H E hr hgd => ?_
  unfold m_prime_polynomials
  exact (gs_cons (gs_asg 2 sc_prime_polynomials.nd (ge_cal c_raised_2 hr (by decide) hgd (takes_of rfl rfl rfl rfl) (ga_cons (ge_var 0) (ga_cons (ge_var 1) ga_nil))))
  (gs_cons (gs_if (gt_cmp op_gt (od_cmp _) (ge_var 2) (ge_glob g_LISTED_MOST) (by rfl)) (gs_cons (gs_raise e_TooMany (hr.mono (by decide)) hgd (takes_of rfl rfl rfl rfl) (ge_var 2))
  gs_nil) gs_nil)
  (gs_cons (gs_asgL 3 sc_prime_polynomials.nd (gl_op op_rep ol_rep (ge_fz (gl_lst (ga_cons ge_bl ga_nil))) (ge_var 2)))
  (gs_cons (gs_for (passes_of rfl) (gi_range2 z.range_ (ga_cons ge_int (ga_cons (ge_op op_addX od_addX (ge_op op_fdivW od_fdiv (ge_var 1) ge_int) ge_int) ga_nil))) (gg_name 4 sc_prime_polynomials.nd) (gs_cons (gs_for (passes_of rfl) (gi_range1 z.range_ (ga_cons (ge_cal c_raised_2 hr (by decide) hgd (takes_of rfl rfl rfl rfl) (ga_cons (ge_var 0) (ga_cons (ge_var 4) ga_nil))) ga_nil)) (gg_name 5 sc_prime_polynomials.nd) (gs_cons (gs_asg 6 sc_prime_polynomials.nd (ge_cal c_of_index_2 hr (by decide) hgd (takes_of rfl rfl rfl rfl) (ga_cons (ge_var 0) (ga_cons (ge_op op_addX od_addX (ge_cal c_raised_2 hr (by decide) hgd (takes_of rfl rfl rfl rfl) (ga_cons (ge_var 0) (ga_cons (ge_var 4) ga_nil))) (ge_var 5)) ga_nil))))
  (gs_cons (gs_for (passes_of rfl) (gi_range1 z.range_ (ga_cons (ge_cal c_raised_2 hr (by decide) hgd (takes_of rfl rfl rfl rfl) (ga_cons (ge_var 0) (ga_cons (ge_op op_sub od_sub (ge_var 1) (ge_var 4)) ga_nil))) ga_nil)) (gg_name 7 sc_prime_polynomials.nd) (gs_cons (gs_asg 8 sc_prime_polynomials.nd (ge_cal c_of_index_2 hr (by decide) hgd (takes_of rfl rfl rfl rfl) (ga_cons (ge_var 0) (ga_cons (ge_op op_addX od_addX (ge_cal c_raised_2 hr (by decide) hgd (takes_of rfl rfl rfl rfl) (ga_cons (ge_var 0) (ga_cons (ge_op op_sub od_sub (ge_var 1) (ge_var 4)) ga_nil))) (ge_var 7)) ga_nil))))
  (gs_cons (gs_setIx 3 (ge_op op_sub od_sub (ge_cal c_index_2 hr (by decide) hgd (takes_of rfl rfl rfl rfl) (ga_cons (ge_var 0) (ga_cons (ge_cal c_product_3 hr (by decide) hgd (takes_of rfl rfl rfl rfl) (ga_cons (ge_var 0) (ga_cons (ge_var 6) (ga_cons (ge_var 8) ga_nil)))) ga_nil))) (ge_var 2)) ge_bl)
  gs_nil)))
  gs_nil)))
  gs_nil))
  (gs_cons (gs_retL (gl_comp (own := [("place", 9), ("is_parted", 10)]) sc_prime_polynomials.nd (gi_enum z.enumerate_ (ge_var 3)) (blkOk_by (by kernel_rfl)) (fun s H C cl fp => (gg_tup (ggs_cons (gg_name 9 sc_prime_polynomials.nd) (ggs_cons (gg_name 10 sc_prime_polynomials.nd) ggs_nil)))) (fun s H C cl fp => (gts_one (gt_not (gt_truV 10)))) (fun s H C cl fp => (ge_cal c_of_index_2 hr (by decide) hgd L2.takes0 (ga_cons (ge_var 0) (ga_cons (ge_op op_addX od_addX (ge_var 2) (ge_var 9)) ga_nil))))))
  gs_nil)))))
theorem w_law_draw (z : Zs mg) {f : Addr} {fd : FuncData} (F : FunD K "_law_draw" "_law_draw" (defArgs s_law_draw) (defBody s_law_draw) (defScope s_law_draw) [] [] f fd) : FnG P w K mg base 1 f fd ["deck", "bound"] [0] f_law_draw := by
  refine fun_gD (k := 0) F sc_law_draw fun cdv A outer s H E hr hgd => ?_
  unfold m_law_draw
  exact (gs_cons (gs_if (gt_bool (gw_and (gt_cmp (op_eqX (uh hr)) od_eqX (ge_ixV 0 ge_int) ge_int (by rfl)) (gw_and1 (gt_cmp op_lt (od_cmp _) (ge_ixV 0 ge_int) (ge_callB call_len cd_len z.len_ bt_len (ga_cons (ge_ixV 0 ge_int) ga_nil)) (by rfl))))) (gs_cons (gs_setIx 0 ge_int (ge_callB call_abs cd_abs z.abs_ bt_abs (ga_cons (ge_ix (ge_ixV 0 ge_int) (ge_ixV 0 ge_int)) ga_nil)))
  (gs_cons (gs_setIx 0 ge_int (ge_op op_addX od_addX (ge_ixV 0 ge_int) ge_int))
  gs_nil)) (gs_cons (gs_if (gt_cmp (op_eqX (uh hr)) od_eqX (ge_ixV 0 ge_int) ge_int (by rfl)) (gs_cons (gs_setIx 0 ge_int (ge_op op_addX od_addX (ge_ixV 0 ge_int) ge_int))
  (gs_cons (gs_asg 2 sc_law_draw.nd (ge_op op_mod od_mod (ge_callTy call_int1 cd_int1 z.int_ bt_int (ga_cons (ge_op op_addX od_addX (ge_op op_addX od_addX (ge_op op_mulX od_mulX (ge_ixV 0 ge_int) ge_int) (ge_op op_mulX od_mulX (ge_ixV 0 ge_int) ge_int)) ge_int) ga_nil)) ge_int))
  (gs_cons (gs_asg 2 sc_law_draw.nd (ge_op op_mod od_mod (ge_callTy call_int1 cd_int1 z.int_ bt_int (ga_cons (ge_op op_addX od_addX (ge_op op_addX od_addX (ge_op op_mulX od_mulX (ge_var 2) (ge_var 2)) (ge_op op_mulX od_mulX ge_int (ge_ixV 0 ge_int))) ge_int) ga_nil)) ge_int))
  (gs_cons (gs_asg 2 sc_law_draw.nd (ge_op op_mod od_mod (ge_callTy call_int1 cd_int1 z.int_ bt_int (ga_cons (ge_op op_addX od_addX (ge_op op_addX od_addX (ge_op op_mulX od_mulX (ge_var 2) (ge_var 2)) (ge_op op_mulX od_mulX ge_int (ge_ixV 0 ge_int))) (ge_ixV 0 ge_int)) ga_nil)) ge_int))
  (gs_cons (gs_setIx 0 ge_int (ge_op op_fdivW od_fdiv (ge_var 2) ge_int))
  gs_nil))))) gs_nil)
  gs_nil))
  (gs_cons (gs_asg 3 sc_law_draw.nd (ge_op op_mod od_mod (ge_callTy call_int1 cd_int1 z.int_ bt_int (ga_cons (ge_ixV 0 ge_int) ga_nil)) (ge_var 1)))
  (gs_cons (gs_setIx 0 ge_int (ge_op op_fdivW od_fdiv (ge_ixV 0 ge_int) (ge_var 1)))
  (gs_cons (gs_retV 3)
  gs_nil))))
theorem w_law_is (z : Zs mg) {f : Addr} {fd : FuncData} (F : FunD K "_law_is" "_law_is" (defArgs s_law_is) (defBody s_law_is) (defScope s_law_is) [] [] f fd) : FnG P w K mg base 1 f fd ["value", "due"] [] f_law_is := by
  refine fun_gD (k := 0) F sc_law_is fun cdv A outer s H E hr hgd => ?_
  unfold m_law_is
  exact (gs_cons (gs_ret (ge_cmp (op_eqX (uh hr)) od_eqX (ge_callB (call_reprD (uh hr) hgd) cd_repr z.repr_ bt_repr (ga_cons (ge_var 0) ga_nil)) (ge_callB (call_reprD (uh hr) hgd) cd_repr z.repr_ bt_repr (ga_cons (ge_var 1) ga_nil)) (by rfl)))
  gs_nil)
theorem w_law_monics (z : Zs mg) {f : Addr} {fd : FuncData} (F : FunD K "_law_monics" "_law_monics" (defArgs s_law_monics) (defBody s_law_monics) (defScope s_law_monics) [] [] f fd) : FnG P w K mg base 1 f fd ["p", "m"] [] f_law_monics := by
  refine fun_gD (k := 0) F sc_law_monics fun cdv A outer s H E hr hgd => ?_
  unfold m_law_monics
  exact (gs_cons (gs_asg 2 sc_law_monics.nd (ge_fz (gl_lst (ga_cons (ge_tup (ga_cons ge_int ga_nil)) ga_nil))))
  (gs_cons (gs_for (passes_of rfl) (gi_range1 z.range_ (ga_cons (ge_var 1) ga_nil)) (gg_name 3 sc_law_monics.nd) (gs_cons (gs_asg 4 sc_law_monics.nd (ge_fz (gl_lst ga_nil)))
  (gs_cons (gs_for (passes_of rfl) (gi_seq (ge_var 2)) (gg_name 5 sc_law_monics.nd) (gs_cons (gs_asg 4 sc_law_monics.nd (ge_op op_addX od_addX (ge_var 4) (ge_fz (gl_comp (own := [("x", 6)]) sc_law_monics.nd (gi_range1 z.range_ (ga_cons (ge_var 0) ga_nil)) (blkOk_by (by kernel_rfl)) (fun s H C cl fp => (gg_name 6 sc_law_monics.nd)) (fun s H C cl fp => gts_nil) (fun s H C cl fp => (ge_op op_addX od_addX (ge_tup (ga_cons (ge_var 6) ga_nil)) (ge_var 5)))))))
  gs_nil))
  (gs_cons (gs_asg 2 sc_law_monics.nd (ge_var 4))
  gs_nil))))
  (gs_cons (gs_retV 2)
  gs_nil)))
theorem w_law_told (z : Zs mg) (c_prime_polynomials_2 : Cal4 P w K mg base 4 "prime_polynomials" 2 [] f_prime_polynomials []) (t_TooMany : CatG K mg "TooMany") {f : Addr} {fd : FuncData} (F : FunD K "_law_told" "_law_told" (defArgs s_law_told) (defBody s_law_told) (defScope s_law_told) [] [] f fd) : FnG P w K mg base 5 f fd ["p", "m"] [] f_law_told := by
  refine fun_gD (k := 4) F sc_law_told fun cdv A outer s H E hr hgd => ?_
  unfold m_law_told
  exact (gs_cons (gs_tryP 2 t_TooMany sc_law_told.nd (takes_of rfl rfl rfl rfl) (fun W2 pn2 xe2 tk2 po2 => (gs_cons (gs_ret (ge_cal c_prime_polynomials_2 hr (by decide) hgd tk2 (ga_cons (ge_var 0) (ga_cons (ge_var 1) ga_nil))))
  gs_nil)))
  gs_nil)
theorem w_law_inv (z : Zs mg) {f : Addr} {fd : FuncData} (F : FunD K "_law_inv" "_law_inv" (defArgs s_law_inv) (defBody s_law_inv) (defScope s_law_inv) [] [] f fd) : FnG P w K mg base 1 f fd ["p", "a"] [] f_law_inv := by
  refine fun_gD (k := 0) F sc_law_inv fun cdv A outer s H E hr hgd => ?_
  unfold m_law_inv
  exact (gs_cons (gs_ret (ge_ix (ge_fz (gl_comp (own := [("x", 2)]) sc_law_inv.nd (gi_range2 z.range_ (ga_cons ge_int (ga_cons (ge_var 0) ga_nil))) (blkOk_by (by kernel_rfl)) (fun s H C cl fp => (gg_name 2 sc_law_inv.nd)) (fun s H C cl fp => (gts_one (gt_cmp (op_eqX (uh hr)) od_eqX (ge_op op_mod od_mod (ge_callTy call_int1 cd_int1 z.int_ bt_int (ga_cons (ge_op op_mulX od_mulX (ge_var 1) (ge_var 2)) ga_nil)) (ge_var 0)) ge_int (by rfl)))) (fun s H C cl fp => (ge_var 2)))) ge_int))
  gs_nil)
theorem w_law_trim (z : Zs mg) {f : Addr} {fd : FuncData} (F : FunD K "_law_trim" "_law_trim" (defArgs s_law_trim) (defBody s_law_trim) (defScope s_law_trim) [] [] f fd) : FnG P w K mg base 1 f fd ["p", "items"] [] f_law_trim := by
  refine fun_gD (k := 0) F sc_law_trim fun cdv A outer s H E hr hgd => ?_
  unfold m_law_trim
  exact (gs_cons (gs_asgC (own := [("item", 3)]) 2 sc_law_trim.nd (gi_seq (ge_var 1)) (blkOk_by (by kernel_rfl)) (fun s H C cl fp => (gg_name 3 sc_law_trim.nd)) (fun s H C cl fp => gts_nil) (fun s H C cl fp => (ge_op op_mod od_mod (ge_callTy call_int1 cd_int1 z.int_ bt_int (ga_cons (ge_var 3) ga_nil)) (ge_var 0))))
  (gs_cons (gs_while (passes_of rfl) (gt_bool (gw_and (gt_cmp op_gt (od_cmp _) (ge_lenV 2 z.len_) ge_int (by rfl)) (gw_and1 (gt_cmp (op_eqX (uh hr)) od_eqX (ge_ixV 2 (ge_neg ge_int)) ge_int (by rfl))))) (gs_cons (gs_expr (ge_pop 2))
  gs_nil))
  (gs_cons (gs_ret (ge_callTy call_tuple_of cd_tuple z.tuple_ bt_tuple (ga_cons (ge_var 2) ga_nil)))
  gs_nil)))
theorem w_law_div (z : Zs mg) (c_law_inv_2 : Cal4 P w K mg base 1 "_law_inv" 2 [] f_law_inv []) (c_law_trim_2 : Cal4 P w K mg base 1 "_law_trim" 2 [] f_law_trim []) {f : Addr} {fd : FuncData} (F : FunD K "_law_div" "_law_div" (defArgs s_law_div) (defBody s_law_div) (defScope s_law_div) [] [] f fd) : FnG P w K mg base 2 f fd ["p", "a", "b"] [] f_law_div := by
  refine fun_gD (k := 1) F sc_law_div fun cdv A outer s H E hr hgd => ?_
  unfold m_law_div
  exact (gs_cons (gs_asgL 3 sc_law_div.nd (gl_callTy call_list_of cl_list z.list_ bt_list (ga_cons (ge_var 1) ga_nil)))
  (gs_cons (gs_asgL 4 sc_law_div.nd (gl_op op_rep ol_rep (ge_fz (gl_lst (ga_cons ge_int ga_nil))) (ge_callB (call_max2 rfl) cd_max2 z.max_ bt_max (ga_cons ge_int (ga_cons (ge_op op_addX od_addX (ge_op op_sub od_sub (ge_lenV 1 z.len_) (ge_lenV 2 z.len_)) ge_int) ga_nil)))))
  (gs_cons (gs_asg 5 sc_law_div.nd (ge_cal c_law_inv_2 hr (by decide) hgd (takes_of rfl rfl rfl rfl) (ga_cons (ge_var 0) (ga_cons (ge_ixV 2 (ge_neg ge_int)) ga_nil))))
  (gs_cons (gs_for (passes_of rfl) (gi_range3 z.range_ (ga_cons (ge_op op_sub od_sub (ge_lenV 1 z.len_) (ge_lenV 2 z.len_)) (ga_cons (ge_neg ge_int) (ga_cons (ge_neg ge_int) ga_nil)))) (gg_name 6 sc_law_div.nd) (gs_cons (gs_setIx 4 (ge_var 6) (ge_op op_mod od_mod (ge_callTy call_int1 cd_int1 z.int_ bt_int (ga_cons (ge_op op_mulX od_mulX (ge_ixV 3 (ge_op op_sub od_sub (ge_op op_addX od_addX (ge_var 6) (ge_lenV 2 z.len_)) ge_int)) (ge_var 5)) ga_nil)) (ge_var 0)))
  (gs_cons (gs_for (passes_of rfl) (gi_range1 z.range_ (ga_cons (ge_lenV 2 z.len_) ga_nil)) (gg_name 7 sc_law_div.nd) (gs_cons (gs_setIx 3 (ge_op op_addX od_addX (ge_var 6) (ge_var 7)) (ge_op op_sub od_sub (ge_ixV 3 (ge_op op_addX od_addX (ge_var 6) (ge_var 7))) (ge_op op_mulX od_mulX (ge_ixV 4 (ge_var 6)) (ge_ixV 2 (ge_var 7)))))
  gs_nil))
  gs_nil)))
  (gs_cons (gs_ret (ge_tup (ga_cons (ge_cal c_law_trim_2 hr (by decide) hgd (takes_of rfl rfl rfl rfl) (ga_cons (ge_var 0) (ga_cons (ge_var 4) ga_nil))) (ga_cons (ge_cal c_law_trim_2 hr (by decide) hgd (takes_of rfl rfl rfl rfl) (ga_cons (ge_var 0) (ga_cons (ge_var 3) ga_nil))) ga_nil))))
  gs_nil)))))
theorem w_law_parted (z : Zs mg) (c_law_monics_2 : Cal4 P w K mg base 1 "_law_monics" 2 [] f_law_monics []) (c_law_div_3 : Cal4 P w K mg base 2 "_law_div" 3 [] f_law_div []) {f : Addr} {fd : FuncData} (F : FunD K "_law_parted" "_law_parted" (defArgs s_law_parted) (defBody s_law_parted) (defScope s_law_parted) [] [] f fd) : FnG P w K mg base 3 f fd ["p", "a"] [] f_law_parted := by
  refine fun_gD (k := 2) F sc_law_parted fun cdv A outer s H E hr hgd => ?_
  unfold m_law_parted
  exact (gs_cons (gs_for (passes_of rfl) (gi_range2 z.range_ (ga_cons ge_int (ga_cons (ge_op op_addX od_addX (ge_op op_fdivW od_fdiv (ge_op op_sub od_sub (ge_lenV 1 z.len_) ge_int) ge_int) ge_int) ga_nil))) (gg_name 2 sc_law_parted.nd) (gs_cons (gs_for (passes_of rfl) (gi_seq (ge_cal c_law_monics_2 hr (by decide) hgd (takes_of rfl rfl rfl rfl) (ga_cons (ge_var 0) (ga_cons (ge_var 2) ga_nil)))) (gg_name 3 sc_law_parted.nd) (gs_cons (gs_if (gt_cmp (op_eqX (uh hr)) od_eqX (ge_ix (ge_cal c_law_div_3 hr (by decide) hgd (takes_of rfl rfl rfl rfl) (ga_cons (ge_var 0) (ga_cons (ge_var 1) (ga_cons (ge_var 3) ga_nil)))) ge_int) (ge_tup ga_nil) (by rfl)) (gs_cons (gs_ret ge_bl)
  gs_nil) gs_nil)
  gs_nil))
  gs_nil))
  (gs_cons (gs_ret ge_bl)
  gs_nil))
theorem w_primes_of (z : Zs mg) {f : Addr} {fd : FuncData} (F : FunD K "primes_of" "primes_of" (defArgs s_primes_of) (defBody s_primes_of) (defScope s_primes_of) [] [] f fd) : FnG P w K mg base 1 f fd ["n"] [] f_primes_of := by
  refine fun_gD (k := 0) F sc_primes_of fun cdv A outer s H E hr hgd => ?_
  unfold m_primes_of
  exact (gs_cons (gs_asgL 1 sc_primes_of.nd (gl_lst ga_nil))
  (gs_cons (gs_asg 2 sc_primes_of.nd ge_int)
  (gs_cons (gs_while (passes_of rfl) (gt_cmp op_le (od_cmp _) (ge_op op_mulX od_mulX (ge_var 2) (ge_var 2)) (ge_var 0) (by rfl)) (gs_cons (gs_asg 3 sc_primes_of.nd ge_int)
  (gs_cons (gs_while (passes_of rfl) (gt_cmp (op_eqX (uh hr)) od_eqX (ge_op op_mod od_mod (ge_var 0) (ge_var 2)) ge_int (by rfl)) (gs_cons (gs_aug 0 sc_primes_of.nd iop_fdiv od_ifdiv (ge_var 2))
  (gs_cons (gs_aug 3 sc_primes_of.nd iop_add od_addI ge_int)
  gs_nil)))
  (gs_cons (gs_if (gt_cmp op_gt (od_cmp _) (ge_var 3) ge_int (by rfl)) (gs_cons (gs_app 1 (ge_tup (ga_cons (ge_var 2) (ga_cons (ge_var 3) ga_nil))))
  gs_nil) gs_nil)
  (gs_cons (gs_aug 2 sc_primes_of.nd iop_add od_addI (ge_if (gt_cmp (op_eqX (uh hr)) od_eqX (ge_var 2) ge_int (by rfl)) ge_int ge_int))
  gs_nil)))))
  (gs_cons (gs_if (gt_cmp op_gt (od_cmp _) (ge_var 0) ge_int (by rfl)) (gs_cons (gs_app 1 (ge_tup (ga_cons (ge_var 0) (ga_cons ge_int ga_nil))))
  gs_nil) gs_nil)
  (gs_cons (gs_retV 1)
  gs_nil)))))
theorem w_mu (z : Zs mg) (c_primes_of_1 : Cal4 P w K mg base 1 "primes_of" 1 [] f_primes_of []) {f : Addr} {fd : FuncData} (F : FunD K "mu" "mu" (defArgs s_mu) (defBody s_mu) (defScope s_mu) [] [] f fd) : FnG P w K mg base 2 f fd ["n"] [] f_mu := by
  refine fun_gD (k := 1) F sc_mu fun cdv A outer s H E hr hgd => ?_
  unfold m_mu
  exact (gs_cons (gs_asg 1 sc_mu.nd (ge_cal c_primes_of_1 hr (by decide) hgd (takes_of rfl rfl rfl rfl) (ga_cons (ge_var 0) ga_nil)))
  (gs_cons (gs_if (gt_tru (ge_callB (cr_any rfl) cd_any z.any_ bt_any (ga_cons (ge_fz (gl_comp (own := [("_", 2), ("count", 3)]) sc_mu.nd (gi_seq (ge_var 1)) (blkOk_by (by kernel_rfl)) (fun s H C cl fp => (gg_tup (ggs_cons (gg_name 2 sc_mu.nd) (ggs_cons (gg_name 3 sc_mu.nd) ggs_nil)))) (fun s H C cl fp => gts_nil) (fun s H C cl fp => (ge_cmp op_gt (od_cmp _) (ge_var 3) ge_int (by rfl))))) ga_nil))) (gs_cons (gs_ret ge_int)
  gs_nil) gs_nil)
  (gs_cons (gs_ret (ge_op op_sub od_sub ge_int (ge_op op_mulX od_mulX ge_int (ge_op op_mod od_mod (ge_lenV 1 z.len_) ge_int))))
  gs_nil)))
theorem w_divisors (z : Zs mg) (c_primes_of_1 : Cal4 P w K mg base 1 "primes_of" 1 [] f_primes_of []) (c_raised_2 : Cal4 P w K mg base 1 "raised" 2 [] f_raised []) {f : Addr} {fd : FuncData} (F : FunD K "divisors" "divisors" (defArgs s_divisors) (defBody s_divisors) (defScope s_divisors) [] [] f fd) : FnG P w K mg base 2 f fd ["n"] [] f_divisors := by
  refine fun_gD (k := 1) F sc_divisors fun cdv A outer s H E hr hgd => ?_
  unfold m_divisors
  exact (gs_cons (gs_asg 1 sc_divisors.nd (ge_fz (gl_lst (ga_cons ge_int ga_nil))))
  (gs_cons (gs_for (passes_of rfl) (gi_seq (ge_cal c_primes_of_1 hr (by decide) hgd (takes_of rfl rfl rfl rfl) (ga_cons (ge_var 0) ga_nil))) (gg_tup (ggs_cons (gg_name 2 sc_divisors.nd) (ggs_cons (gg_name 3 sc_divisors.nd) ggs_nil))) (gs_cons (gs_asgC2 (own := [("part", 4), ("number", 5)]) 1 sc_divisors.nd [5] (gi_seq (ge_var 1)) (blkOk_by (by kernel_rfl)) (fun s H C cl fp => (gg_name 4 sc_divisors.nd)) (fun s H C cl fp => gts_nil) (fun s H C cl fp => (gi_range1 z.range_ (ga_cons (ge_op op_addX od_addX (ge_var 3) ge_int) ga_nil))) (fun s H C cl fp => (gg_name 5 sc_divisors.nd)) (fun s H C cl fp => gts_nil) (fun s H C cl fp => (ge_op op_mulX od_mulX (ge_var 4) (ge_cal c_raised_2 hr (by decide) hgd L2.takes0 (ga_cons (ge_var 2) (ga_cons (ge_var 5) ga_nil))))))
  gs_nil))
  (gs_cons (gs_retL (gl_callB cr_sortedI cl_sorted z.sorted_ bt_sorted (ga_cons (ge_var 1) ga_nil)))
  gs_nil)))
theorem w_prime_count (z : Zs mg) (c_mu_1 : Cal4 P w K mg base 2 "mu" 1 [] f_mu []) (c_raised_2 : Cal4 P w K mg base 1 "raised" 2 [] f_raised []) (c_divisors_1 : Cal4 P w K mg base 2 "divisors" 1 [] f_divisors []) {f : Addr} {fd : FuncData} (F : FunD K "prime_count" "prime_count" (defArgs s_prime_count) (defBody s_prime_count) (defScope s_prime_count) [] [] f fd) : FnG P w K mg base 3 f fd ["p", "m"] [] f_prime_count := by
  refine fun_gD (k := 2) F sc_prime_count fun cdv A outer s H E hr hgd => ?_
  unfold m_prime_count
  exact (gs_cons (gs_ret (ge_op op_fdivW od_fdiv (ge_callB (cr_sum rfl) cd_sum z.sum_ bt_sum (ga_cons (ge_fz (gl_comp (own := [("part", 2)]) sc_prime_count.nd (gi_seq (ge_cal c_divisors_1 hr (by decide) hgd (takes_of rfl rfl rfl rfl) (ga_cons (ge_var 1) ga_nil))) (blkOk_by (by kernel_rfl)) (fun s H C cl fp => (gg_name 2 sc_prime_count.nd)) (fun s H C cl fp => gts_nil) (fun s H C cl fp => (ge_op op_mulX od_mulX (ge_cal c_mu_1 hr (by decide) hgd L2.takes0 (ga_cons (ge_var 2) ga_nil)) (ge_cal c_raised_2 hr (by decide) hgd L2.takes0 (ga_cons (ge_var 0) (ga_cons (ge_op op_fdivW od_fdiv (ge_var 1) (ge_var 2)) ga_nil))))))) ga_nil)) (ge_var 1)))
  gs_nil)
theorem w_law (z : Zs mg) (c_law_deck_1 : Cal4 P w K mg base 1 "_law_deck" 1 [] f_law_deck []) (c_prime_polynomials_2 : Cal4 P w K mg base 4 "prime_polynomials" 2 [] f_prime_polynomials []) (c_law_draw_2 : Cal4 P w K mg base 1 "_law_draw" 2 [0] f_law_draw []) (c_law_is_2 : Cal4 P w K mg base 1 "_law_is" 2 [] f_law_is []) (c_law_monics_2 : Cal4 P w K mg base 1 "_law_monics" 2 [] f_law_monics []) (c_law_told_2 : Cal4 P w K mg base 5 "_law_told" 2 [] f_law_told []) (c_law_parted_2 : Cal4 P w K mg base 3 "_law_parted" 2 [] f_law_parted []) (c_prime_count_2 : Cal4 P w K mg base 3 "prime_count" 2 [] f_prime_count []) {f : Addr} {fd : FuncData} (F : FunD K "law" "law" (defArgs s_law) (defBody s_law) (defScope s_law) [] [] f fd) : FnG P w K mg base 6 f fd ["script"] [] f_law := by
  refine fun_gD (k := 5) F sc_law fun cdv A outer s H E hr hgd => ?_
  unfold m_law
  exact (gs_cons (gs_asgL 1 sc_law.nd (gl_cal c_law_deck_1 hr (by decide) hgd (takes_of rfl rfl rfl rfl) (ga_cons (ge_var 0) ga_nil)))
  (gs_cons (gs_asgT (ge_ix (ge_fz (gl_lst (ga_cons (ge_tup (ga_cons ge_int (ga_cons ge_int ga_nil))) (ga_cons (ge_tup (ga_cons ge_int (ga_cons ge_int ga_nil))) (ga_cons (ge_tup (ga_cons ge_int (ga_cons ge_int ga_nil))) (ga_cons (ge_tup (ga_cons ge_int (ga_cons ge_int ga_nil))) (ga_cons (ge_tup (ga_cons ge_int (ga_cons ge_int ga_nil))) (ga_cons (ge_tup (ga_cons ge_int (ga_cons ge_int ga_nil))) (ga_cons (ge_tup (ga_cons ge_int (ga_cons ge_int ga_nil))) (ga_cons (ge_tup (ga_cons ge_int (ga_cons ge_int ga_nil))) (ga_cons (ge_tup (ga_cons ge_int (ga_cons ge_int ga_nil))) (ga_cons (ge_tup (ga_cons ge_int (ga_cons ge_int ga_nil))) (ga_cons (ge_tup (ga_cons ge_int (ga_cons ge_int ga_nil))) (ga_cons (ge_tup (ga_cons ge_int (ga_cons ge_int ga_nil))) (ga_cons (ge_tup (ga_cons ge_int (ga_cons ge_int ga_nil))) ga_nil))))))))))))))) (ge_calM 1 c_law_draw_2 hr (by decide) hgd (takes_of rfl rfl rfl rfl) (ga_cons ge_int ga_nil))) (gg_tup (ggs_cons (gg_name 2 sc_law.nd) (ggs_cons (gg_name 3 sc_law.nd) ggs_nil))))
  (gs_cons (gs_asgC (own := [("one", 11)]) 4 sc_law.nd (gi_seq (ge_cal c_law_monics_2 hr (by decide) hgd (takes_of rfl rfl rfl rfl) (ga_cons (ge_var 2) (ga_cons (ge_var 3) ga_nil)))) (blkOk_by (by kernel_rfl)) (fun s H C cl fp => (gg_name 11 sc_law.nd)) (fun s H C cl fp => (gts_one (gt_not (gt_tru (ge_cal c_law_parted_2 hr (by decide) hgd L2.takes0 (ga_cons (ge_var 2) (ga_cons (ge_var 11) ga_nil))))))) (fun s H C cl fp => (ge_var 11)))
  (gs_cons (gs_asgL 5 sc_law.nd (gl_cal c_prime_polynomials_2 hr (by decide) hgd (takes_of rfl rfl rfl rfl) (ga_cons (ge_var 2) (ga_cons (ge_var 3) ga_nil))))
  (gs_cons (gs_if (gt_look (gt_not (gt_tru (ge_cal c_law_is_2 hr (by decide) hgd (takes_of rfl rfl rfl rfl) (ga_cons (ge_fz (gl_lst (ga_cons (ge_var 5) (ga_cons (ge_cal c_prime_count_2 hr (by decide) hgd (takes_of rfl rfl rfl rfl) (ga_cons (ge_var 2) (ga_cons (ge_var 3) ga_nil))) ga_nil)))) (ga_cons (ge_fz (gl_lst (ga_cons (ge_var 4) (ga_cons (ge_lenV 4 z.len_) ga_nil)))) ga_nil)))))) (gs_cons (gs_ret ge_bl)
  gs_nil) gs_nil)
  (gs_cons (gs_app 5 ge_str)
  (gs_cons (gs_if (gt_not (gt_tru (ge_cal c_law_is_2 hr (by decide) hgd (takes_of rfl rfl rfl rfl) (ga_cons (ge_cal c_prime_polynomials_2 hr (by decide) hgd (takes_of rfl rfl rfl rfl) (ga_cons (ge_var 2) (ga_cons (ge_var 3) ga_nil))) (ga_cons (ge_var 4) ga_nil))))) (gs_cons (gs_ret ge_bl)
  gs_nil) gs_nil)
  (gs_cons (gs_asg 6 sc_law.nd (ge_op op_addX od_addX ge_int (ge_calM 1 c_law_draw_2 hr (by decide) hgd (takes_of rfl rfl rfl rfl) (ga_cons ge_int ga_nil))))
  (gs_cons (gs_asg 7 sc_law.nd (ge_callB (cr_sum rfl) cd_sum z.sum_ bt_sum (ga_cons (ge_fz (gl_comp (own := [("d", 12)]) sc_law.nd (gi_range2 z.range_ (ga_cons ge_int (ga_cons (ge_op op_addX od_addX (ge_var 6) ge_int) ga_nil))) (blkOk_by (by kernel_rfl)) (fun s H C cl fp => (gg_name 12 sc_law.nd)) (fun s H C cl fp => (gts_one (gt_cmp (op_eqX (uh hr)) od_eqX (ge_op op_mod od_mod (ge_callTy call_int1 cd_int1 z.int_ bt_int (ga_cons (ge_var 6) ga_nil)) (ge_var 12)) ge_int (by rfl)))) (fun s H C cl fp => (ge_op op_mulX od_mulX (ge_var 12) (ge_cal c_prime_count_2 hr (by decide) hgd L2.takes0 (ga_cons (ge_var 2) (ga_cons (ge_var 12) ga_nil))))))) ga_nil)))
  (gs_cons (gs_asg 8 sc_law.nd ge_int)
  (gs_cons (gs_for (passes_of rfl) (gi_range1 z.range_ (ga_cons (ge_var 6) ga_nil)) (gg_name 9 sc_law.nd) (gs_cons (gs_asg 8 sc_law.nd (ge_op op_mulX od_mulX (ge_var 8) (ge_var 2)))
  gs_nil))
  (gs_cons (gs_asgT (ge_ix (ge_fz (gl_lst (ga_cons (ge_tup (ga_cons ge_int (ga_cons ge_int (ga_cons ge_int ga_nil)))) (ga_cons (ge_tup (ga_cons ge_int (ga_cons ge_int (ga_cons ge_int ga_nil)))) (ga_cons (ge_tup (ga_cons ge_int (ga_cons ge_int (ga_cons ge_int ga_nil)))) (ga_cons (ge_tup (ga_cons ge_int (ga_cons ge_int (ga_cons ge_int ga_nil)))) (ga_cons (ge_tup (ga_cons ge_int (ga_cons ge_int (ga_cons ge_int ga_nil)))) (ga_cons (ge_tup (ga_cons ge_int (ga_cons ge_int (ga_cons ge_int ga_nil)))) ga_nil)))))))) (ge_calM 1 c_law_draw_2 hr (by decide) hgd (takes_of rfl rfl rfl rfl) (ga_cons ge_int ga_nil))) (gg_tup (ggs_cons (gg_name 2 sc_law.nd) (ggs_cons (gg_name 3 sc_law.nd) (ggs_cons (gg_name 10 sc_law.nd) ggs_nil)))))
  (gs_cons (gs_ret (ge_and (ge_cmp (op_eqX (uh hr)) od_eqX (ge_var 7) (ge_var 8) (by rfl)) (ge_one (ge_cal c_law_is_2 hr (by decide) hgd (takes_of rfl rfl rfl rfl) (ga_cons (ge_cal c_law_told_2 hr (by decide) hgd (takes_of rfl rfl rfl rfl) (ga_cons (ge_var 2) (ga_cons (ge_var 3) ga_nil))) (ga_cons (ge_var 10) ga_nil))))))
  gs_nil)))))))))))))
end
theorem all_mk {P : Program} {w : World} {K : PySem.W.Frag} {h : Heap} {mg : Str → Option Value} {fa : Addr} (X : K.In h) (G : h.Ns mainGlobals mg) (hfa : mg "law" = some (.ref fa))
    {f0 : Addr} {od0 an0 : Option Addr} {sl0 : Array (Option Value)} {oc0 kV0 dc0 pm0 cd0 ct0 : Value}
    (a0 : PySem.W.nsIn K mainGlobals "_law_deck" = some (some (.ref f0))) (l0 : K.lookup f0 = some ⟨oc0, od0, .func (PySem.W.fnOf "_law_deck" "_law_deck" (defArgs s_law_deck) (defBody s_law_deck) (defScope s_law_deck) .none kV0 dc0 pm0 an0 cd0 ct0), sl0⟩) (p0 : PySem.W.codeIn K cd0 "_law_deck" = true) (k0 : PySem.W.keepIn K (.ref f0) = true)
    {f1 : Addr} {od1 an1 : Option Addr} {sl1 : Array (Option Value)} {oc1 kV1 dc1 pm1 cd1 ct1 : Value}
    (a1 : PySem.W.nsIn K mainGlobals "raised" = some (some (.ref f1))) (l1 : K.lookup f1 = some ⟨oc1, od1, .func (PySem.W.fnOf "raised" "raised" (defArgs s_raised) (defBody s_raised) (defScope s_raised) .none kV1 dc1 pm1 an1 cd1 ct1), sl1⟩) (p1 : PySem.W.codeIn K cd1 "raised" = true) (k1 : PySem.W.keepIn K (.ref f1) = true)
    {f2 : Addr} {od2 an2 : Option Addr} {sl2 : Array (Option Value)} {oc2 kV2 dc2 pm2 cd2 ct2 : Value}
    (a2 : PySem.W.nsIn K mainGlobals "of_index" = some (some (.ref f2))) (l2 : K.lookup f2 = some ⟨oc2, od2, .func (PySem.W.fnOf "of_index" "of_index" (defArgs s_of_index) (defBody s_of_index) (defScope s_of_index) .none kV2 dc2 pm2 an2 cd2 ct2), sl2⟩) (p2 : PySem.W.codeIn K cd2 "of_index" = true) (k2 : PySem.W.keepIn K (.ref f2) = true)
    {f3 : Addr} {od3 an3 : Option Addr} {sl3 : Array (Option Value)} {oc3 kV3 dc3 pm3 cd3 ct3 : Value}
    (a3 : PySem.W.nsIn K mainGlobals "index" = some (some (.ref f3))) (l3 : K.lookup f3 = some ⟨oc3, od3, .func (PySem.W.fnOf "index" "index" (defArgs s_index) (defBody s_index) (defScope s_index) .none kV3 dc3 pm3 an3 cd3 ct3), sl3⟩) (p3 : PySem.W.codeIn K cd3 "index" = true) (k3 : PySem.W.keepIn K (.ref f3) = true)
    {f4 : Addr} {od4 an4 : Option Addr} {sl4 : Array (Option Value)} {oc4 kV4 dc4 pm4 cd4 ct4 : Value}
    (a4 : PySem.W.nsIn K mainGlobals "trimmed" = some (some (.ref f4))) (l4 : K.lookup f4 = some ⟨oc4, od4, .func (PySem.W.fnOf "trimmed" "trimmed" (defArgs s_trimmed) (defBody s_trimmed) (defScope s_trimmed) .none kV4 dc4 pm4 an4 cd4 ct4), sl4⟩) (p4 : PySem.W.codeIn K cd4 "trimmed" = true) (k4 : PySem.W.keepIn K (.ref f4) = true)
    {f5 : Addr} {od5 an5 : Option Addr} {sl5 : Array (Option Value)} {oc5 kV5 dc5 pm5 cd5 ct5 : Value}
    (a5 : PySem.W.nsIn K mainGlobals "product" = some (some (.ref f5))) (l5 : K.lookup f5 = some ⟨oc5, od5, .func (PySem.W.fnOf "product" "product" (defArgs s_product) (defBody s_product) (defScope s_product) .none kV5 dc5 pm5 an5 cd5 ct5), sl5⟩) (p5 : PySem.W.codeIn K cd5 "product" = true) (k5 : PySem.W.keepIn K (.ref f5) = true)
    {f6 : Addr} {od6 an6 : Option Addr} {sl6 : Array (Option Value)} {oc6 kV6 dc6 pm6 cd6 ct6 : Value}
    (a6 : PySem.W.nsIn K mainGlobals "prime_polynomials" = some (some (.ref f6))) (l6 : K.lookup f6 = some ⟨oc6, od6, .func (PySem.W.fnOf "prime_polynomials" "prime_polynomials" (defArgs s_prime_polynomials) (defBody s_prime_polynomials) (defScope s_prime_polynomials) .none kV6 dc6 pm6 an6 cd6 ct6), sl6⟩) (p6 : PySem.W.codeIn K cd6 "prime_polynomials" = true) (k6 : PySem.W.keepIn K (.ref f6) = true)
    {f7 : Addr} {od7 an7 : Option Addr} {sl7 : Array (Option Value)} {oc7 kV7 dc7 pm7 cd7 ct7 : Value}
    (a7 : PySem.W.nsIn K mainGlobals "_law_draw" = some (some (.ref f7))) (l7 : K.lookup f7 = some ⟨oc7, od7, .func (PySem.W.fnOf "_law_draw" "_law_draw" (defArgs s_law_draw) (defBody s_law_draw) (defScope s_law_draw) .none kV7 dc7 pm7 an7 cd7 ct7), sl7⟩) (p7 : PySem.W.codeIn K cd7 "_law_draw" = true) (k7 : PySem.W.keepIn K (.ref f7) = true)
    {f8 : Addr} {od8 an8 : Option Addr} {sl8 : Array (Option Value)} {oc8 kV8 dc8 pm8 cd8 ct8 : Value}
    (a8 : PySem.W.nsIn K mainGlobals "_law_is" = some (some (.ref f8))) (l8 : K.lookup f8 = some ⟨oc8, od8, .func (PySem.W.fnOf "_law_is" "_law_is" (defArgs s_law_is) (defBody s_law_is) (defScope s_law_is) .none kV8 dc8 pm8 an8 cd8 ct8), sl8⟩) (p8 : PySem.W.codeIn K cd8 "_law_is" = true) (k8 : PySem.W.keepIn K (.ref f8) = true)
    {f9 : Addr} {od9 an9 : Option Addr} {sl9 : Array (Option Value)} {oc9 kV9 dc9 pm9 cd9 ct9 : Value}
    (a9 : PySem.W.nsIn K mainGlobals "_law_monics" = some (some (.ref f9))) (l9 : K.lookup f9 = some ⟨oc9, od9, .func (PySem.W.fnOf "_law_monics" "_law_monics" (defArgs s_law_monics) (defBody s_law_monics) (defScope s_law_monics) .none kV9 dc9 pm9 an9 cd9 ct9), sl9⟩) (p9 : PySem.W.codeIn K cd9 "_law_monics" = true) (k9 : PySem.W.keepIn K (.ref f9) = true)
    {f10 : Addr} {od10 an10 : Option Addr} {sl10 : Array (Option Value)} {oc10 kV10 dc10 pm10 cd10 ct10 : Value}
    (a10 : PySem.W.nsIn K mainGlobals "_law_told" = some (some (.ref f10))) (l10 : K.lookup f10 = some ⟨oc10, od10, .func (PySem.W.fnOf "_law_told" "_law_told" (defArgs s_law_told) (defBody s_law_told) (defScope s_law_told) .none kV10 dc10 pm10 an10 cd10 ct10), sl10⟩) (p10 : PySem.W.codeIn K cd10 "_law_told" = true) (k10 : PySem.W.keepIn K (.ref f10) = true)
    {f11 : Addr} {od11 an11 : Option Addr} {sl11 : Array (Option Value)} {oc11 kV11 dc11 pm11 cd11 ct11 : Value}
    (a11 : PySem.W.nsIn K mainGlobals "_law_inv" = some (some (.ref f11))) (l11 : K.lookup f11 = some ⟨oc11, od11, .func (PySem.W.fnOf "_law_inv" "_law_inv" (defArgs s_law_inv) (defBody s_law_inv) (defScope s_law_inv) .none kV11 dc11 pm11 an11 cd11 ct11), sl11⟩) (p11 : PySem.W.codeIn K cd11 "_law_inv" = true) (k11 : PySem.W.keepIn K (.ref f11) = true)
    {f12 : Addr} {od12 an12 : Option Addr} {sl12 : Array (Option Value)} {oc12 kV12 dc12 pm12 cd12 ct12 : Value}
    (a12 : PySem.W.nsIn K mainGlobals "_law_trim" = some (some (.ref f12))) (l12 : K.lookup f12 = some ⟨oc12, od12, .func (PySem.W.fnOf "_law_trim" "_law_trim" (defArgs s_law_trim) (defBody s_law_trim) (defScope s_law_trim) .none kV12 dc12 pm12 an12 cd12 ct12), sl12⟩) (p12 : PySem.W.codeIn K cd12 "_law_trim" = true) (k12 : PySem.W.keepIn K (.ref f12) = true)
    {f13 : Addr} {od13 an13 : Option Addr} {sl13 : Array (Option Value)} {oc13 kV13 dc13 pm13 cd13 ct13 : Value}
    (a13 : PySem.W.nsIn K mainGlobals "_law_div" = some (some (.ref f13))) (l13 : K.lookup f13 = some ⟨oc13, od13, .func (PySem.W.fnOf "_law_div" "_law_div" (defArgs s_law_div) (defBody s_law_div) (defScope s_law_div) .none kV13 dc13 pm13 an13 cd13 ct13), sl13⟩) (p13 : PySem.W.codeIn K cd13 "_law_div" = true) (k13 : PySem.W.keepIn K (.ref f13) = true)
    {f14 : Addr} {od14 an14 : Option Addr} {sl14 : Array (Option Value)} {oc14 kV14 dc14 pm14 cd14 ct14 : Value}
    (a14 : PySem.W.nsIn K mainGlobals "_law_parted" = some (some (.ref f14))) (l14 : K.lookup f14 = some ⟨oc14, od14, .func (PySem.W.fnOf "_law_parted" "_law_parted" (defArgs s_law_parted) (defBody s_law_parted) (defScope s_law_parted) .none kV14 dc14 pm14 an14 cd14 ct14), sl14⟩) (p14 : PySem.W.codeIn K cd14 "_law_parted" = true) (k14 : PySem.W.keepIn K (.ref f14) = true)
    {f15 : Addr} {od15 an15 : Option Addr} {sl15 : Array (Option Value)} {oc15 kV15 dc15 pm15 cd15 ct15 : Value}
    (a15 : PySem.W.nsIn K mainGlobals "primes_of" = some (some (.ref f15))) (l15 : K.lookup f15 = some ⟨oc15, od15, .func (PySem.W.fnOf "primes_of" "primes_of" (defArgs s_primes_of) (defBody s_primes_of) (defScope s_primes_of) .none kV15 dc15 pm15 an15 cd15 ct15), sl15⟩) (p15 : PySem.W.codeIn K cd15 "primes_of" = true) (k15 : PySem.W.keepIn K (.ref f15) = true)
    {f16 : Addr} {od16 an16 : Option Addr} {sl16 : Array (Option Value)} {oc16 kV16 dc16 pm16 cd16 ct16 : Value}
    (a16 : PySem.W.nsIn K mainGlobals "mu" = some (some (.ref f16))) (l16 : K.lookup f16 = some ⟨oc16, od16, .func (PySem.W.fnOf "mu" "mu" (defArgs s_mu) (defBody s_mu) (defScope s_mu) .none kV16 dc16 pm16 an16 cd16 ct16), sl16⟩) (p16 : PySem.W.codeIn K cd16 "mu" = true) (k16 : PySem.W.keepIn K (.ref f16) = true)
    {f17 : Addr} {od17 an17 : Option Addr} {sl17 : Array (Option Value)} {oc17 kV17 dc17 pm17 cd17 ct17 : Value}
    (a17 : PySem.W.nsIn K mainGlobals "divisors" = some (some (.ref f17))) (l17 : K.lookup f17 = some ⟨oc17, od17, .func (PySem.W.fnOf "divisors" "divisors" (defArgs s_divisors) (defBody s_divisors) (defScope s_divisors) .none kV17 dc17 pm17 an17 cd17 ct17), sl17⟩) (p17 : PySem.W.codeIn K cd17 "divisors" = true) (k17 : PySem.W.keepIn K (.ref f17) = true)
    {f18 : Addr} {od18 an18 : Option Addr} {sl18 : Array (Option Value)} {oc18 kV18 dc18 pm18 cd18 ct18 : Value}
    (a18 : PySem.W.nsIn K mainGlobals "prime_count" = some (some (.ref f18))) (l18 : K.lookup f18 = some ⟨oc18, od18, .func (PySem.W.fnOf "prime_count" "prime_count" (defArgs s_prime_count) (defBody s_prime_count) (defScope s_prime_count) .none kV18 dc18 pm18 an18 cd18 ct18), sl18⟩) (p18 : PySem.W.codeIn K cd18 "prime_count" = true) (k18 : PySem.W.keepIn K (.ref f18) = true)
    {f19 : Addr} {od19 an19 : Option Addr} {sl19 : Array (Option Value)} {oc19 kV19 dc19 pm19 cd19 ct19 : Value}
    (a19 : PySem.W.nsIn K mainGlobals "law" = some (some (.ref f19))) (l19 : K.lookup f19 = some ⟨oc19, od19, .func (PySem.W.fnOf "law" "law" (defArgs s_law) (defBody s_law) (defScope s_law) .none kV19 dc19 pm19 an19 cd19 ct19), sl19⟩) (p19 : PySem.W.codeIn K cd19 "law" = true) (k19 : PySem.W.keepIn K (.ref f19) = true)
    (z_list : PySem.W.nsIn K mainGlobals "list" = some none)
    (z_int : PySem.W.nsIn K mainGlobals "int" = some none)
    (z_tuple : PySem.W.nsIn K mainGlobals "tuple" = some none)
    (z_enumerate : PySem.W.nsIn K mainGlobals "enumerate" = some none)
    (z_len : PySem.W.nsIn K mainGlobals "len" = some none)
    (z_range : PySem.W.nsIn K mainGlobals "range" = some none)
    (z_abs : PySem.W.nsIn K mainGlobals "abs" = some none)
    (z_repr : PySem.W.nsIn K mainGlobals "repr" = some none)
    (z_max : PySem.W.nsIn K mainGlobals "max" = some none)
    (z_any : PySem.W.nsIn K mainGlobals "any" = some none)
    (z_sorted : PySem.W.nsIn K mainGlobals "sorted" = some none)
    (z_sum : PySem.W.nsIn K mainGlobals "sum" = some none)
    {tk_LISTED_MOST : Tok} (g_LISTED_MOST : PySem.W.nsIn K mainGlobals "LISTED_MOST" = some (some (.int 5000 tk_LISTED_MOST)))
    {HC hI : Addr} (aH : PySem.W.nsIn K mainGlobals "HeapError" = some (some (.ref HC))) (HH : HeapG P w K mg HC hI)
    (E_TooMany : HeapG P w K mg HC hI → ∀ base : Heap, ErrG P w K mg base "TooMany")
    (t_TooMany : CatG K mg "TooMany")
    : ∃ fd : FuncData, (∀ (s : Shared) (u : Value), BindsTo s fd ⟨[u], []⟩ [("script", u)]) ∧ ∀ base : Heap, K.In base → base.Ns mainGlobals mg → FnG P w K mg base 6 fa fd ["script"] [] f_law := by
  have e := hfa.symm.trans (PySem.W.mg_of X G a19)
  cases e
  have z : Zs mg := ⟨PySem.W.mg_none_of X G z_list, PySem.W.mg_none_of X G z_int, PySem.W.mg_none_of X G z_tuple, PySem.W.mg_none_of X G z_enumerate, PySem.W.mg_none_of X G z_len, PySem.W.mg_none_of X G z_range, PySem.W.mg_none_of X G z_abs, PySem.W.mg_none_of X G z_repr, PySem.W.mg_none_of X G z_max, PySem.W.mg_none_of X G z_any, PySem.W.mg_none_of X G z_sorted, PySem.W.mg_none_of X G z_sum, ⟨_, PySem.W.mg_of X G g_LISTED_MOST⟩⟩
  have F0 := funD_mk (st := s_law_deck) l0 p0 k0
  have F1 := funD_mk (st := s_raised) l1 p1 k1
  have F2 := funD_mk (st := s_of_index) l2 p2 k2
  have F3 := funD_mk (st := s_index) l3 p3 k3
  have F4 := funD_mk (st := s_trimmed) l4 p4 k4
  have F5 := funD_mk (st := s_product) l5 p5 k5
  have F6 := funD_mk (st := s_prime_polynomials) l6 p6 k6
  have F7 := funD_mk (st := s_law_draw) l7 p7 k7
  have F8 := funD_mk (st := s_law_is) l8 p8 k8
  have F9 := funD_mk (st := s_law_monics) l9 p9 k9
  have F10 := funD_mk (st := s_law_told) l10 p10 k10
  have F11 := funD_mk (st := s_law_inv) l11 p11 k11
  have F12 := funD_mk (st := s_law_trim) l12 p12 k12
  have F13 := funD_mk (st := s_law_div) l13 p13 k13
  have F14 := funD_mk (st := s_law_parted) l14 p14 k14
  have F15 := funD_mk (st := s_primes_of) l15 p15 k15
  have F16 := funD_mk (st := s_mu) l16 p16 k16
  have F17 := funD_mk (st := s_divisors) l17 p17 k17
  have F18 := funD_mk (st := s_prime_count) l18 p18 k18
  have F19 := funD_mk (st := s_law) l19 p19 k19
  refine ⟨PySem.W.fnOf "law" "law" (defArgs s_law) (defBody s_law) (defScope s_law) .none kV19 dc19 pm19 an19 cd19 ct19, fun s v => .of_eq rfl, fun base _ _ => ?_⟩
  have g0 := w_law_deck (P := P) (w := w) (base := base) z  F0
  have c_law_deck_1 : Cal4 P w K mg base 1 "_law_deck" 1 [] f_law_deck [] := cal_n F0 g0 (PySem.W.mg_of X G a0) rfl (fun _ _ _ _ _ _ us hl => match us, hl with | [_], _ => rfl)
  have g1 := w_raised (P := P) (w := w) (base := base) z  F1
  have c_raised_2 : Cal4 P w K mg base 1 "raised" 2 [] f_raised [] := cal_n F1 g1 (PySem.W.mg_of X G a1) rfl (fun _ _ _ _ _ _ us hl => match us, hl with | [_, _], _ => rfl)
  have g2 := w_of_index (P := P) (w := w) (base := base) z  F2
  have c_of_index_2 : Cal4 P w K mg base 1 "of_index" 2 [] f_of_index [] := cal_n F2 g2 (PySem.W.mg_of X G a2) rfl (fun _ _ _ _ _ _ us hl => match us, hl with | [_, _], _ => rfl)
  have g3 := w_index (P := P) (w := w) (base := base) z  F3
  have c_index_2 : Cal4 P w K mg base 1 "index" 2 [] f_index [] := cal_n F3 g3 (PySem.W.mg_of X G a3) rfl (fun _ _ _ _ _ _ us hl => match us, hl with | [_, _], _ => rfl)
  have g4 := w_trimmed (P := P) (w := w) (base := base) z  F4
  have c_trimmed_2 : Cal4 P w K mg base 1 "trimmed" 2 [] f_trimmed [] := cal_n F4 g4 (PySem.W.mg_of X G a4) rfl (fun _ _ _ _ _ _ us hl => match us, hl with | [_, _], _ => rfl)
  have g5 := w_product (P := P) (w := w) (base := base) z c_trimmed_2 F5
  have c_product_3 : Cal4 P w K mg base 2 "product" 3 [] f_product [] := cal_n F5 g5 (PySem.W.mg_of X G a5) rfl (fun _ _ _ _ _ _ us hl => match us, hl with | [_, _, _], _ => rfl)
  have g6 := w_prime_polynomials (P := P) (w := w) (base := base) z c_raised_2 c_of_index_2 c_index_2 c_product_3 (E_TooMany HH base) F6
  have c_prime_polynomials_2 : Cal4 P w K mg base 4 "prime_polynomials" 2 [] f_prime_polynomials [] := cal_n F6 g6 (PySem.W.mg_of X G a6) rfl (fun _ _ _ _ _ _ us hl => match us, hl with | [_, _], _ => rfl)
  have g7 := w_law_draw (P := P) (w := w) (base := base) z  F7
  have c_law_draw_2 : Cal4 P w K mg base 1 "_law_draw" 2 [0] f_law_draw [] := cal_n F7 g7 (PySem.W.mg_of X G a7) rfl (fun _ _ _ _ _ _ us hl => match us, hl with | [_, _], _ => rfl)
  have g8 := w_law_is (P := P) (w := w) (base := base) z  F8
  have c_law_is_2 : Cal4 P w K mg base 1 "_law_is" 2 [] f_law_is [] := cal_n F8 g8 (PySem.W.mg_of X G a8) rfl (fun _ _ _ _ _ _ us hl => match us, hl with | [_, _], _ => rfl)
  have g9 := w_law_monics (P := P) (w := w) (base := base) z  F9
  have c_law_monics_2 : Cal4 P w K mg base 1 "_law_monics" 2 [] f_law_monics [] := cal_n F9 g9 (PySem.W.mg_of X G a9) rfl (fun _ _ _ _ _ _ us hl => match us, hl with | [_, _], _ => rfl)
  have g10 := w_law_told (P := P) (w := w) (base := base) z c_prime_polynomials_2 t_TooMany F10
  have c_law_told_2 : Cal4 P w K mg base 5 "_law_told" 2 [] f_law_told [] := cal_n F10 g10 (PySem.W.mg_of X G a10) rfl (fun _ _ _ _ _ _ us hl => match us, hl with | [_, _], _ => rfl)
  have g11 := w_law_inv (P := P) (w := w) (base := base) z  F11
  have c_law_inv_2 : Cal4 P w K mg base 1 "_law_inv" 2 [] f_law_inv [] := cal_n F11 g11 (PySem.W.mg_of X G a11) rfl (fun _ _ _ _ _ _ us hl => match us, hl with | [_, _], _ => rfl)
  have g12 := w_law_trim (P := P) (w := w) (base := base) z  F12
  have c_law_trim_2 : Cal4 P w K mg base 1 "_law_trim" 2 [] f_law_trim [] := cal_n F12 g12 (PySem.W.mg_of X G a12) rfl (fun _ _ _ _ _ _ us hl => match us, hl with | [_, _], _ => rfl)
  have g13 := w_law_div (P := P) (w := w) (base := base) z c_law_inv_2 c_law_trim_2 F13
  have c_law_div_3 : Cal4 P w K mg base 2 "_law_div" 3 [] f_law_div [] := cal_n F13 g13 (PySem.W.mg_of X G a13) rfl (fun _ _ _ _ _ _ us hl => match us, hl with | [_, _, _], _ => rfl)
  have g14 := w_law_parted (P := P) (w := w) (base := base) z c_law_monics_2 c_law_div_3 F14
  have c_law_parted_2 : Cal4 P w K mg base 3 "_law_parted" 2 [] f_law_parted [] := cal_n F14 g14 (PySem.W.mg_of X G a14) rfl (fun _ _ _ _ _ _ us hl => match us, hl with | [_, _], _ => rfl)
  have g15 := w_primes_of (P := P) (w := w) (base := base) z  F15
  have c_primes_of_1 : Cal4 P w K mg base 1 "primes_of" 1 [] f_primes_of [] := cal_n F15 g15 (PySem.W.mg_of X G a15) rfl (fun _ _ _ _ _ _ us hl => match us, hl with | [_], _ => rfl)
  have g16 := w_mu (P := P) (w := w) (base := base) z c_primes_of_1 F16
  have c_mu_1 : Cal4 P w K mg base 2 "mu" 1 [] f_mu [] := cal_n F16 g16 (PySem.W.mg_of X G a16) rfl (fun _ _ _ _ _ _ us hl => match us, hl with | [_], _ => rfl)
  have g17 := w_divisors (P := P) (w := w) (base := base) z c_primes_of_1 c_raised_2 F17
  have c_divisors_1 : Cal4 P w K mg base 2 "divisors" 1 [] f_divisors [] := cal_n F17 g17 (PySem.W.mg_of X G a17) rfl (fun _ _ _ _ _ _ us hl => match us, hl with | [_], _ => rfl)
  have g18 := w_prime_count (P := P) (w := w) (base := base) z c_mu_1 c_raised_2 c_divisors_1 F18
  have c_prime_count_2 : Cal4 P w K mg base 3 "prime_count" 2 [] f_prime_count [] := cal_n F18 g18 (PySem.W.mg_of X G a18) rfl (fun _ _ _ _ _ _ us hl => match us, hl with | [_, _], _ => rfl)
  have g19 := w_law (P := P) (w := w) (base := base) z c_law_deck_1 c_prime_polynomials_2 c_law_draw_2 c_law_is_2 c_law_monics_2 c_law_told_2 c_law_parted_2 c_prime_count_2 F19
  exact g19
end K05


set_option Elab.async false
set_option linter.all false
set_option maxRecDepth 100000
set_option maxHeartbeats 4000000
namespace K05
open PySem PySem.Spec PyProof.Rows L2 Evl Q4 Lib NW

/-! ### lists of numbers by a function -/
def FL (f : Nat → Int) (n : Nat) : List Int := (List.range n).map f
theorem FL_len (f : Nat → Int) (n : Nat) : (FL f n).length = n := by simp [FL]
theorem FL_succ (f : Nat → Int) (n : Nat) : FL f (n + 1) = FL f n ++ [f n] := by simp [FL, List.range_succ]
theorem FL_get (f : Nat → Int) {n i : Nat} (h : i < n) : (FL f n)[i]? = some (f i) := by simp [FL, List.getElem?_range h]
theorem FL_congr {f g : Nat → Int} {n : Nat} (h : ∀ i, i < n → f i = g i) : FL f n = FL g n := List.map_congr_left fun i hi => h i (List.mem_range.mp hi)
theorem FL_take (f : Nat → Int) (n k : Nat) : (FL f n).take k = FL f (min k n) := by simp [FL, ← List.map_take, List.take_range]
theorem FL_sum (f : Nat → Int) : ∀ n, (FL f n).sum = sg f n
  | 0 => rfl
  | n + 1 => by rw [FL_succ, List.sum_append, FL_sum f n]; simp [sg]
theorem mem_FL {f : Nat → Int} {n : Nat} {x : Int} (h : x ∈ FL f n) : ∃ i, i < n ∧ x = f i := by
  obtain ⟨i, hi, e⟩ := List.mem_map.mp h
  exact ⟨i, List.mem_range.mp hi, e.symm⟩
theorem ints_IL : ∀ ns : List Int, ints? (IL ns) = some ns
  | [] => rfl
  | n :: ns => by
    show ints? (.int n :: IL ns) = _
    simp [ints?, ints_IL ns]
theorem o_sum {ns : List Int} {Q : D → Prop} (q : Q (.int ns.sum)) : ∃ d, dSum [.lst (IL ns)] = some d ∧ Q d := ⟨_, by unfold dSum; simp only; rw [ints_IL]; rfl, q⟩
/-- a list's number at a place, 0 behind it -/
abbrev at0 (l : List Int) (i : Nat) : Int := l.getD i 0
theorem at_get {l : List Int} {i : Nat} (h : i < l.length) : l[i]? = some (at0 l i) := by simp [at0, List.getD, List.getElem?_eq_getElem h]
theorem FL_at (l : List Int) : FL (at0 l) l.length = l := by
  refine List.ext_getElem? fun i => ?_
  by_cases h : i < l.length
  · rw [FL_get _ h, at_get h]
  · rw [List.getElem?_eq_none (by rw [FL_len]; omega), List.getElem?_eq_none (by omega)]
theorem IL_at {l : List Int} {i : Nat} (h : i < l.length) : atI (IL l) (i : Int) = some (.int (at0 l i)) := by
  rw [at_nat (by rw [IL_len]; exact h)]
  simp only [IL, List.getElem?_map]
  rw [at_get h]
  rfl
theorem FL_atI {f : Nat → Int} {n i : Nat} (h : i < n) : atI (IL (FL f n)) (i : Int) = some (.int (f i)) := by
  rw [at_nat (by rw [IL_len, FL_len]; exact h)]
  simp only [IL, List.getElem?_map]
  rw [FL_get f h]
  rfl
theorem o_ixL {l : List Int} {z : Int} {i : Nat} {Q : D → Prop} (e : z = i) (h : i < l.length) (q : Q (.int (at0 l i))) : ∃ d, dIx (.lst (IL l)) (.int z) = some d ∧ Q d := by
  subst e
  exact ⟨_, IL_at h, q⟩
theorem o_ixF {f : Nat → Int} {n : Nat} {z : Int} {i : Nat} {Q : D → Prop} (e : z = i) (h : i < n) (q : Q (.int (f i))) : ∃ d, dIx (.lst (IL (FL f n))) (.int z) = some d ∧ Q d := by
  subst e
  exact ⟨_, FL_atI h, q⟩

/-! ### sizes -/
theorem lg {x : Int} {k : Nat} (h : x.natAbs ≤ 2 ^ k) : x.natAbs.log2 ≤ k := by
  have h2 : (2 : Nat) ^ k < 2 ^ (k + 1) := Nat.pow_lt_pow_right (by decide) (by omega)
  exact log2_small (Nat.lt_of_le_of_lt h h2)
theorem o_mulB {i j : Int} {k l : Nat} {Q : D → Prop} (hi : i.natAbs ≤ 2 ^ k) (hj : j.natAbs ≤ 2 ^ l) (h : k + l < 1000000) (q : Q (.int (i * j))) : ∃ d, dMulX (.int i) (.int j) = some d ∧ Q d := by
  have h1 := lg hi
  have h2 := lg hj
  exact o_mul (by omega) q
theorem nat_mul {i j : Int} {k l : Nat} (hi : i.natAbs ≤ 2 ^ k) (hj : j.natAbs ≤ 2 ^ l) : (i * j).natAbs ≤ 2 ^ (k + l) := by
  rw [Int.natAbs_mul, Nat.pow_add]
  exact Nat.mul_le_mul hi hj
theorem nat_up {i : Int} {k l : Nat} (hi : i.natAbs ≤ 2 ^ k) (h : k ≤ l) : i.natAbs ≤ 2 ^ l := Nat.le_trans hi (Nat.pow_le_pow_right (by decide) h)
theorem two_le {a b k : Nat} (ha : a ≤ 2 ^ k) (hb : b ≤ 2 ^ k) : a + b ≤ 2 ^ (k + 1) := by rw [Nat.pow_succ]; omega
theorem nat_add {i j : Int} {k : Nat} (hi : i.natAbs ≤ 2 ^ k) (hj : j.natAbs ≤ 2 ^ k) : (i + j).natAbs ≤ 2 ^ (k + 1) := Nat.le_trans (Int.natAbs_add_le _ _) (two_le hi hj)
theorem nat_sub {i j : Int} {k : Nat} (hi : i.natAbs ≤ 2 ^ k) (hj : j.natAbs ≤ 2 ^ k) : (i - j).natAbs ≤ 2 ^ (k + 1) := by
  have := nat_add (i := i) (j := -j) hi (by rw [Int.natAbs_neg]; exact hj)
  rwa [← Int.sub_eq_add_neg] at this
theorem nat_pow {x : Int} {k : Nat} (h : x.natAbs ≤ 2 ^ k) : ∀ n : Nat, (x ^ n).natAbs ≤ 2 ^ (k * n)
  | 0 => by simp
  | n + 1 => by
    rw [Int.pow_succ, Nat.mul_succ]
    exact nat_mul (nat_pow h n) h
theorem o_mulI {i j : Int} {k l : Nat} {Q : D → Prop} (hi : i.natAbs ≤ 2 ^ k) (hj : j.natAbs ≤ 2 ^ l) (h : k + l < 1000000) (q : Q (.int (i * j))) : ∃ d, dMulI (.int i) (.int j) = some d ∧ Q d := by
  have h1 := lg hi
  have h2 := lg hj
  exact ⟨_, by unfold dMulI; simp only; rw [if_pos (by omega)], q⟩
theorem ap_raised {x : Int} {e k : Nat} (hx : x.natAbs ≤ 2 ^ k) (hk : k * (2 * e + 2) < 1000000) : Ap f_raised [.int x, .int e] (.int (x ^ e)) := by
  refine ap_fn ?_
  show (m_raised [.fz (.int x), .fz (.int e), .no]).sat _
  refine s_seq (s_asgN (s_C ⟨rfl, rfl, ?_⟩))
  refine s_seq (s_while (fun n S => ∃ u v : Nat, S = [.fz (.int (x ^ v)), .fz (.int n), .fz (.int (x ^ u))] ∧ u + v * n = e) (fun n S hP => ?_) e _ ⟨0, 1, by simp [Int.pow_succ], by omega⟩)
  obtain ⟨u, v, rfl, he⟩ := hP
  refine s_test (s_bin (s_var rfl (s_C (o_gt ⟨_, rfl, fun hc => ?_, fun hc => ⟨rfl, ?_⟩⟩))))
  · have h0 : 0 < n := by simpa using hc
    have hv : v ≤ e := by
      have : v * 1 ≤ v * n := Nat.mul_le_mul_left v h0
      omega
    have hu : u ≤ e := by omega
    have sx := nat_pow hx v
    have su := nat_pow hx u
    have bv : k * v ≤ k * e := Nat.mul_le_mul_left k hv
    have bu : k * u ≤ k * e := Nat.mul_le_mul_left k hu
    have bk : k * (2 * e + 2) = 2 * (k * e) + 2 * k := by rw [Nat.mul_add, Nat.mul_left_comm, Nat.mul_comm k 2]
    refine s_seq (sat_mono (Q := fun f S => f = .nx ∧ S = [.fz (.int (x ^ v)), .fz (.int n), .fz (.int (x ^ (u + v * (n % 2))))]) ?_ ?_)
    · refine s_ifS (s_test (s_bin (s_bin (s_var rfl (s_C (o_mod (by decide) (s_C (o_eq ⟨_, rfl, fun hd => ?_, fun hd => ?_⟩))))))))
      · have hd' : n % 2 = 1 := by have : (n : Int) % 2 = 1 := by simpa using hd
                                   omega
        refine s_last (s_aug rfl (s_var rfl (o_mulI su sx (by omega) ⟨rfl, rfl, ?_⟩)))
        rw [hd', Nat.mul_one, Int.pow_add]
        rfl
      · have hd' : n % 2 = 0 := by have : ¬ (n : Int) % 2 = 1 := by simpa using hd
                                   omega
        refine s_nx ⟨rfl, ?_⟩
        rw [hd', Nat.mul_zero]
        rfl
    · rintro f S ⟨rfl, rfl⟩
      refine ⟨rfl, s_seq (s_aug rfl (s_C ⟨.int ((n : Int) / 2), rfl, rfl, rfl, ?_⟩))⟩
      have hh : (n : Int) / 2 = ((n / 2 : Nat) : Int) := by omega
      have e2 : u + v * (n % 2) + v * 2 * (n / 2) = e := by
        rw [Nat.mul_assoc, Nat.add_assoc, ← Nat.mul_add, Nat.mod_add_div]
        exact he
      rw [hh]
      refine s_last (s_ifS (s_test (s_bin (s_var rfl (s_C (o_gt ⟨_, rfl, fun hd => ?_, fun hd => ?_⟩))))))
      · refine s_last (s_aug rfl (s_var rfl (o_mulI sx sx (by omega) ⟨rfl, n / 2, by omega, u + v * (n % 2), v * 2, ?_, e2⟩)))
        rw [Int.pow_mul, Int.pow_succ, Int.pow_succ, Int.pow_zero, Int.one_mul]
        rfl
      · have hz : n / 2 = 0 := by have : ¬ (0 : Int) < ((n / 2 : Nat) : Int) := by simpa using hd
                                  omega
        refine s_nx ⟨n / 2, by omega, u + v * (n % 2), v, rfl, ?_⟩
        rw [hz] at e2 ⊢
        omega
  · have h0 : n = 0 := by have : ¬ (0 : Int) < (n : Int) := by simpa using hc
                          omega
    subst h0
    refine s_last (s_retV rfl ?_)
    rw [show u = e by omega]

theorem IL_snoc (ns : List Int) (x : Int) : IL ns ++ [D.int x] = IL (ns ++ [x]) := by simp [IL]
theorem mem_rng {n : Nat} {d : D} (h : d ∈ rngD 0 1 n) : ∃ k : Nat, k < n ∧ d = .int k := by
  obtain ⟨i, hi⟩ := List.getElem?_of_mem h
  obtain ⟨h1, h2⟩ := rng_get hi
  exact ⟨i, h1, h2⟩
theorem map_rng (F : D → D) (n : Nat) : (rngD 0 1 n).map F = (List.range n).map fun i : Nat => F (.int i) := by
  simp [rngD, Function.comp_def]
theorem map_rngI {F : D → D} {f : Nat → Int} {n : Nat} (h : ∀ i : Nat, i < n → F (.int i) = .int (f i)) : (rngD 0 1 n).map F = IL (FL f n) := by
  rw [map_rng, IL, FL, List.map_map]
  exact List.map_congr_left fun i hi => h i (List.mem_range.mp hi)
theorem rng1_get {n i : Nat} {d : D} (h : (rngD 1 1 n)[i]? = some d) : i < n ∧ d = .int ((i + 1 : Nat) : Int) := by
  unfold rngD at h
  rw [List.getElem?_map] at h
  obtain ⟨k, hk, rfl⟩ := Option.map_eq_some_iff.mp h
  obtain ⟨h3, h4⟩ := List.getElem?_eq_some_iff.mp hk
  rw [List.getElem_range] at h4
  rw [List.length_range] at h3
  subst h4
  refine ⟨h3, ?_⟩
  congr 1
  omega
theorem rng1_len (n : Nat) : (rngD 1 1 n).length = n := by simp [rngD]
theorem mem_rng1 {n : Nat} {d : D} (h : d ∈ rngD 1 1 n) : ∃ k : Nat, k < n ∧ d = .int ((k + 1 : Nat) : Int) := by
  obtain ⟨i, hi⟩ := List.getElem?_of_mem h
  obtain ⟨h1, h2⟩ := rng1_get hi
  exact ⟨i, h1, h2⟩
theorem map_rng1 {F : D → D} {f : Nat → Int} {n : Nat} (h : ∀ i : Nat, i < n → F (.int ((i + 1 : Nat) : Int)) = .int (f i)) : (rngD 1 1 n).map F = IL (FL f n) := by
  rw [rngD, IL, FL, List.map_map, List.map_map]
  refine List.map_congr_left fun i hi => ?_
  refine Eq.trans ?_ (h i (List.mem_range.mp hi))
  show F (.int (1 + (i : Int) * 1)) = _
  congr 2
  omega

end K05


set_option Elab.async false
set_option linter.all false
set_option maxRecDepth 100000
set_option maxHeartbeats 4000000
namespace K05
open PySem PySem.Spec PyProof.Rows L2 Evl Q4 Lib

theorem at_el {l : List Int} {i : Nat} (h : i < l.length) : l[i] = at0 l i := by
  have := at_get h
  rw [List.getElem?_eq_getElem h] at this
  exact Option.some.inj this
theorem at0_set (l : List Int) (k i : Nat) (c : Int) (h : k < l.length) : at0 (l.set k c) i = if i = k then c else at0 l i := by
  unfold at0
  rw [List.getD_eq_getElem?_getD, List.getD_eq_getElem?_getD, List.getElem?_set]
  by_cases e : k = i
  · subst e; rw [if_pos rfl, if_pos h, if_pos rfl]; rfl
  · rw [if_neg e, if_neg (Ne.symm e)]
theorem o_ixT {l : List Int} {z : Int} {i : Nat} {Q : D → Prop} (e : z = i) (h : i < l.length) (q : Q (.int (at0 l i))) : ∃ d, dIx (.tup (IL l)) (.int z) = some d ∧ Q d := by
  subst e
  exact ⟨_, IL_at h, q⟩
theorem o_last {l : List Int} {x : Int} {Q : D → Prop} (q : Q (.int x)) : ∃ d, dIx (.tup (IL (l ++ [x]))) (.int (-1)) = some d ∧ Q d := ⟨_, ixLastT, q⟩
/-- all numbers at most so great -/
def Bn (k : Nat) (l : List Int) : Prop := ∀ i, (at0 l i).natAbs ≤ k
theorem Bn.set {k : Nat} {l : List Int} (h : Bn k l) {i : Nat} {c : Int} {m : Nat} (hk : k ≤ m) (hc : c.natAbs ≤ m) : Bn m (l.set i c) := fun j => by
  by_cases hi : i < l.length
  · rw [at0_set _ _ _ _ hi]
    split
    · exact hc
    · exact Nat.le_trans (h j) hk
  · rw [List.set_eq_of_length_le (by omega)]
    exact Nat.le_trans (h j) hk
theorem Bn.of_mem {k : Nat} {l : List Int} (h : ∀ x ∈ l, x.natAbs ≤ k) : Bn k l := fun i => by
  by_cases hi : i < l.length
  · rw [← at_el hi]; exact h _ (List.getElem_mem hi)
  · unfold at0
    rw [List.getD_eq_getElem?_getD, List.getElem?_eq_none (by omega)]
    exact Nat.zero_le _
theorem Bn.mem {k : Nat} {l : List Int} (h : Bn k l) {x : Int} (hx : x ∈ l) : x.natAbs ≤ k := by
  obtain ⟨i, hi, e⟩ := List.mem_iff_getElem.mp hx
  rw [← e, at_el hi]
  exact h i
theorem dig_bn {p : Int} {l : List Int} (hp : p ≤ 61) (h : Dig p l) : Bn 61 l := Bn.of_mem fun x hx => by
  have := h x hx
  omega
theorem idx_set' (B c : Int) (l : List Int) (k : Nat) (h : k < l.length) : idx B (l.set k c) = idx B l + (c - at0 l k) * B ^ k := by
  have := idx_set B (c - at0 l k) l k h
  rw [at_el h, show at0 l k + (c - at0 l k) = c by omega] at this
  exact this

/-! ### one step of a division -/
/-- the rest behind j numbers of b -/
structure Sub (p : Int) (b rest R : List Int) (part : Int) (k j : Nat) : Prop where
  len : R.length = rest.length
  val : ∀ B, idx B R = idx B rest - part * B ^ k * idx B (b.take j)
  hi : ∀ i, k + j ≤ i → at0 R i = at0 rest i
  top : 0 < j → at0 R (k + j - 1) = at0 rest (k + j - 1) - part * at0 b (j - 1)
theorem Sub.zero (p : Int) (b rest : List Int) (part : Int) (k : Nat) : Sub p b rest rest part k 0 := ⟨rfl, fun B => by simp, fun _ _ => rfl, fun h => by omega⟩
theorem Sub.step {p : Int} {b rest R : List Int} {part : Int} {k j : Nat} (h : Sub p b rest R part k j) (hj : j < b.length) (hk : k + j < rest.length) : Sub p b rest (R.set (k + j) (at0 R (k + j) - part * at0 b j)) part k (j + 1) := by
  have hl : k + j < R.length := by rw [h.len]; exact hk
  refine ⟨by rw [List.length_set]; exact h.len, fun B => ?_, fun i hi => ?_, fun _ => ?_⟩
  · rw [idx_set' _ _ _ _ hl, h.val, idx_take B hj, at_el hj, Int.pow_add]
    grind
  · rw [at0_set _ _ _ _ hl, if_neg (by omega)]
    exact h.hi i (by omega)
  · rw [show k + (j + 1) - 1 = k + j by omega, at0_set _ _ _ _ hl, if_pos rfl, h.hi _ (Nat.le_refl _), Nat.add_sub_cancel]
/-- without a part nothing is taken -/
theorem Sub.none (p : Int) (b rest : List Int) (k : Nat) : Sub p b rest rest 0 k b.length := ⟨rfl, fun B => by simp, fun _ _ => rfl, fun _ => by simp⟩
/-- where a division stands: k steps to go -/
structure Div (p : Int) (a b rest tl : List Int) (k : Nat) : Prop where
  len : rest.length = a.length
  val : ∀ B, idx B a = idx B b * (idx B tl * B ^ k) + idx B rest
  hi : ∀ i, k + b.length ≤ i + 1 → at0 rest i % p = 0
theorem Div.start (p : Int) {a b : List Int} {k : Nat} (h : a.length + 1 ≤ k + b.length) : Div p a b a [] k := ⟨rfl, fun B => by simp, fun i hi => by
  unfold at0
  rw [List.getD_eq_getElem?_getD, List.getElem?_eq_none (by omega)]
  rfl⟩
theorem Div.step {p : Int} {a ys rest tl R : List Int} {x u : Int} {k : Nat} (h : Div p a (ys ++ [x]) rest tl (k + 1)) (hu : x * u % p = 1) (s : Sub p (ys ++ [x]) rest R (at0 rest (k + ys.length) * u % p) k (ys ++ [x]).length) : Div p a (ys ++ [x]) R ((at0 rest (k + ys.length) * u % p) :: tl) k := by
  refine ⟨by rw [s.len]; exact h.len, fun B => ?_, fun i hi => ?_⟩
  · have h1 := h.val B
    have h2 := s.val B
    rw [List.take_length] at h2
    rw [idx_cons, h1, h2, Int.pow_succ]
    grind
  · have hl : (ys ++ [x]).length = ys.length + 1 := by simp
    rw [hl] at hi
    by_cases e : i = k + ys.length
    · subst e
      have h3 := s.top (by rw [hl]; omega)
      rw [hl] at h3
      have hb : at0 (ys ++ [x]) (ys.length + 1 - 1) = x := by simp [at0]
      rw [hb, show k + (ys.length + 1) - 1 = k + ys.length by omega] at h3
      rw [h3]
      generalize at0 rest (k + ys.length) = r
      have e1 : (r - r * u % p * x) % p = (r - r * (x * u)) % p := by
        have q := Int.emod_add_mul_ediv (r * u) p
        have : r - r * u % p * x = (r - r * (x * u)) + p * (r * u / p * x) := by
          have : r * u % p = r * u - p * (r * u / p) := by omega
          rw [this]; grind
        rw [this, Int.add_mul_emod_self_left]
      have q := Int.emod_add_mul_ediv (x * u) p
      have e2 : r - r * (x * u) = p * (-(r * (x * u / p))) := by
        have : x * u = 1 + p * (x * u / p) := by omega
        generalize x * u / p = y at this
        rw [this]; grind
      rw [e1, e2, Int.mul_emod_right]
    · rw [s.hi i (by rw [hl]; omega)]
      exact h.hi i (by rw [hl]; omega)
theorem zeros_md {p : Int} {l : List Int} (h : ∀ x ∈ l, x % p = 0) : Md p (fun B => idx B l) (fun _ => 0) := by
  have e : l.map (· % p) = List.replicate l.length 0 := by
    refine List.eq_replicate_iff.mpr ⟨by simp, fun y hy => ?_⟩
    obtain ⟨x, hx, rfl⟩ := List.mem_map.mp hy
    exact h x hx
  exact ⟨fun B => idx B (l.map (· / p)), Ev.idx _, fun B => by show idx B l = 0 + p * idx B (l.map (· / p)); rw [idx_mod B p l, e, idx_zeros]⟩
theorem Div.fin {p : Int} (hp : 0 < p) {a b rest tl : List Int} (h : Div p a b rest tl 0) (b0 : b ≠ []) : IsDiv p a b (cn p tl) (cn p (rest.take (b.length - 1))) ∧ cn p rest = cn p (rest.take (b.length - 1)) := by
  have hb := List.length_pos_iff.mpr b0
  have hr : Md p (fun B => idx B rest) (fun B => idx B (rest.take (b.length - 1))) := by
    have e : ∀ B, idx B rest = idx B (rest.take (b.length - 1)) + idx B (rest.drop (b.length - 1)) * B ^ (rest.take (b.length - 1)).length := fun B => by rw [← idx_append, List.take_append_drop]
    have z : Md p (fun B => idx B (rest.drop (b.length - 1))) (fun _ => 0) := zeros_md fun x hx => by
      obtain ⟨i, hi, e⟩ := List.mem_iff_getElem.mp hx
      rw [List.getElem_drop] at e
      rw [List.length_drop] at hi
      rw [← e, at_el (by omega)]
      exact h.hi _ (by omega)
    refine (Md.of_eq e).trans (((Md.refl (fun B => idx B (rest.take (b.length - 1)))).add (z.mulR (k := fun B => B ^ (rest.take (b.length - 1)).length) ⟨List.replicate (rest.take (b.length - 1)).length 0 ++ [1], fun B => by rw [idx_append, idx_zeros]; simp⟩)).trans (Md.of_eq fun B => by simp))
  refine ⟨⟨cn_dig hp _, cn_nz _ _, cn_dig hp _, cn_nz _ _, ?_, ?_⟩, cn_eq hp hr⟩
  · have := cn_len p (rest.take (b.length - 1))
    rw [List.length_take] at this
    omega
  · refine Md.trans (Md.of_eq (g := fun B => idx B b * idx B tl + idx B rest) fun B => by rw [h.val]; simp) ?_
    exact (((cn_md p tl).symm.mulL (Ev.idx b)).add (hr.trans (cn_md p _).symm))
end K05


set_option Elab.async false
set_option linter.all false
set_option maxRecDepth 100000
set_option maxHeartbeats 4000000
namespace K05
open PySem PySem.Spec PyProof.Rows L2 Evl Q4 Lib

theorem s_subI {k : Nat} {S : SS} {mi me : M D} {m : List Int} {Q : Fl → SS → Prop} (h0 : S[k]? = some (.ow (IL m))) (h : (mi S).sat fun i S1 => S1 = S ∧ ∃ j : Nat, i = .int j ∧ j < m.length ∧ (me S).sat fun b S2 => S2 = S ∧ ∃ c : Int, b = .int c ∧ Q .nx (S.set k (.ow (IL (m.set j (at0 m j - c)))))) :
    (mAugIx k dSub mi me S).sat Q := by
  refine s_augIx h0 (sat_mono h fun i S1 ⟨e1, j, e2, hj, h2⟩ => ?_)
  subst e1 e2
  refine ⟨IL m, j, .int (at0 m j), h0, rfl, IL_at hj, sat_mono h2 fun b S2 ⟨e3, c, e4, q⟩ => ?_⟩
  subst e3 e4
  exact ⟨.int (at0 m j - c), IL m, j, rfl, h0, Lib.ixN_nat (by rw [IL_len]; exact hj), by rw [IL_set]; exact q⟩
theorem rngD_dn {m i : Nat} {z : Int} {d : D} (hz : z = (m : Int) - 1) (h : (rngD z (-1) m)[i]? = some d) : i < m ∧ d = .int ((m - 1 - i : Nat) : Int) := by
  subst hz
  unfold rngD at h
  rw [List.getElem?_map] at h
  obtain ⟨k, hk, rfl⟩ := Option.map_eq_some_iff.mp h
  obtain ⟨h3, h4⟩ := List.getElem?_eq_some_iff.mp hk
  rw [List.getElem_range] at h4
  rw [List.length_range] at h3
  subst h4
  refine ⟨h3, ?_⟩
  congr 1
  omega
theorem isE {l : List Int} (h : l ≠ []) : (!(!(IL l).isEmpty)) = false := by cases l <;> simp_all [IL]
theorem cut_take {ds : List D} {k : Nat} (h : k ≤ ds.length) : Q4.cutD ds none (some (k : Int)) = ds.take k := by
  unfold Q4.cutD
  rw [HT.sIx_none, HT.sIx_nat, List.drop_zero, Nat.sub_zero, Nat.min_eq_left h]
theorem cut_all {ds : List D} {k : Nat} : Q4.cutD ds none (some (k : Int)) = ds.take k := by
  unfold Q4.cutD
  rw [HT.sIx_none, HT.sIx_nat, List.drop_zero, Nat.sub_zero]
  by_cases h : k ≤ ds.length
  · rw [Nat.min_eq_left h]
  · rw [Nat.min_eq_right (by omega), List.take_length, List.take_of_length_le (by omega)]
theorem rep_tl (k : Nat) (tl : List Int) (c : Int) : (List.replicate (k + 1) 0 ++ tl).set k c = List.replicate k 0 ++ (c :: tl) := by
  rw [List.replicate_succ', List.append_assoc, List.set_append_right _ _ (by simp)]
  simp
theorem law_div_ok {p : Int} {a b : List Int} (hp : p ∈ P61) (ha : Dig p a) (hb : Dig p b) (nb : NZ b) (b0 : b ≠ []) (la : a.length ≤ 10000) (lb : b.length ≤ 10000) : ∃ q r, IsDiv p a b q r ∧ Ap f_law_div [.int p, .tup (IL a), .tup (IL b)] (.tup [.tup (IL q), .tup (IL r)]) := by
  have hc : cap = 10000000 := rfl
  have hpb := P61_le p hp
  rcases NZ_end nb with rfl | ⟨ys, x, rfl, hx⟩
  · exact absurd rfl b0
  have hxp := dig_last hb hx
  obtain ⟨hu, hu1, hu2, _⟩ := invI_ok hp hxp.1 hxp.2
  have lbs : (ys ++ [x]).length = ys.length + 1 := by simp
  rw [lbs] at lb
  have bb := dig_bn hpb.2 hb
  suffices h : (m_law_div [.fz (.int p), .fz (.tup (IL a)), .fz (.tup (IL (ys ++ [x]))), .no, .no, .no, .no, .no]).sat fun f _ => ∃ q r, IsDiv p a (ys ++ [x]) q r ∧ f = .rt (.tup [.tup (IL q), .tup (IL r)]) by
    obtain ⟨f, S, e, q, r, h1, rfl⟩ := h
    exact ⟨q, r, h1, ap_fn ⟨_, _, e, rfl⟩⟩
  refine s_seq (s_asgL (s_callL (s_cons (s_var rfl (s_nil ⟨IL a, rfl, rfl, rfl, ?_⟩)))))
  obtain ⟨n, hn, hna⟩ : ∃ n : Nat, (if ((IL a).length : Int) - ((IL (ys ++ [x])).length : Int) + 1 > 0 then ((IL a).length : Int) - ((IL (ys ++ [x])).length : Int) + 1 else 0) = n ∧ n = a.length - ys.length := by
    rw [IL_len, IL_len, lbs]
    exact ⟨a.length - ys.length, by split <;> omega, rfl⟩
  refine s_seq (s_asgL (s_binL (s_fz (s_lst (s_cons (s_C (s_nil ⟨?_, by decide⟩)))))))
  refine s_call (s_cons (s_C (s_cons (s_bin (s_bin (s_len rfl (o_lenT (s_len rfl (o_lenT (o_sub (s_C (o_add (s_nil ⟨.int n, by rw [← hn]; rfl, IL (List.replicate n 0), ?_, rfl, rfl, ?_⟩)))))))))))))
  · unfold dRep
    simp only
    rw [if_pos ⟨by omega, by omega, by rw [Int.toNat_natCast, List.length_singleton]; omega⟩, Int.toNat_natCast, rep_IL]
  refine s_seq (s_asgN (s_ap (s_cons (s_var rfl (s_cons (s_ixV rfl (s_un (s_C (o_neg (o_last (s_nil ⟨_, ap_law_inv hp hxp.1 hxp.2, rfl, rfl, ?_⟩)))))))))))
  generalize hinv : invI p x = u at *
  refine s_seq (s_for (fun ds i S => ∃ (rest tl : List Int) (x6 x7 : SV), ds = rngD (((IL a).length : Int) - ((IL (ys ++ [x])).length : Int)) (-1) n ∧ i ≤ n ∧ S = [.fz (.int p), .fz (.tup (IL a)), .fz (.tup (IL (ys ++ [x]))), .ow (IL rest), .ow (IL (List.replicate (n - i) 0 ++ tl)), .fz (.int u), x6, x7] ∧ Div p a (ys ++ [x]) rest tl (n - i) ∧ Bn (61 + 3721 * (i * (ys.length + 1))) rest ∧ tl.length = i) ?_)
  refine s_rng3 (s_cons (s_bin (s_len rfl (o_lenT (s_len rfl (o_lenT (o_sub (s_cons (s_un (s_C (o_neg (s_cons (s_un (s_C (o_neg (s_nil ⟨((IL a).length : Int) - ((IL (ys ++ [x])).length : Int), -1, rfl, by rw [IL_len, IL_len]; omega, by omega, ?_⟩))))))))))))))))
  rw [show (((IL a).length : Int) - ((IL (ys ++ [x])).length : Int) - -1).toNat = n by rw [IL_len, IL_len, lbs]; omega]
  refine ⟨⟨a, [], .no, .no, rfl, Nat.zero_le _, by rw [List.append_nil]; rfl, Div.start p (by rw [lbs]; omega), fun i => Nat.le_trans (dig_bn hpb.2 ha i) (by omega), rfl⟩, fun i d S hi hP => ?_, fun S hP => ⟨rfl, ?_⟩⟩
  · obtain ⟨rest, tl, x6, x7, _, hi1, rfl, hD, hB, htl⟩ := hP
    have hi3 : i < n := by have := (List.getElem?_eq_some_iff.mp hi).1; simpa [rngD] using this
    obtain ⟨hi2, rfl⟩ := rngD_dn (by rw [IL_len, IL_len, lbs]; omega) hi
    obtain ⟨k, hk⟩ : ∃ k, n - i = k + 1 := ⟨n - i - 1, by omega⟩
    have hk2 : n - 1 - i = k := by omega
    have hk3 : n - (i + 1) = k := by omega
    rw [hk] at hD ⊢
    rw [hk2]
    have hlen : k + ys.length < rest.length := by rw [hD.len]; omega
    have small : i * (ys.length + 1) ≤ 10000 * 10000 := Nat.mul_le_mul (by omega) (by omega)
    have smS : (i + 1) * (ys.length + 1) = i * (ys.length + 1) + (ys.length + 1) := by rw [Nat.add_mul, Nat.one_mul]
    refine ⟨_, rfl, s_seq (s_setI rfl (s_bin (s_call (s_cons (s_bin (s_ixO rfl (s_bin (s_bin (s_var rfl (s_len rfl (o_lenT (o_add (s_C (o_sub ⟨rfl, ?_⟩))))))))))))))⟩
    refine o_ixL (i := k + ys.length) (by rw [IL_len, lbs]; omega) hlen ?_
    have hr := hB (k + ys.length)
    refine s_var rfl (o_mul (mul64 (by omega) (by omega)) (s_nil (o_int1 (s_var rfl (o_mod (by omega) ⟨rfl, _, rfl, ?_⟩)))))
    generalize hpart : at0 rest (k + ys.length) * u % p = part
    have hp1 : 0 ≤ part ∧ part < p := by rw [← hpart]; exact ⟨Int.emod_nonneg _ (by omega), Int.emod_lt_of_pos _ (by omega)⟩
    refine s_var rfl ⟨rfl, k, rfl, by simp; omega, rfl, ?_⟩
    rw [rep_tl]
    refine s_last (s_for (fun ds j S => ∃ (R : List Int) (x7 : SV), ds = rngD 0 1 (ys.length + 1) ∧ j ≤ ys.length + 1 ∧ S = [.fz (.int p), .fz (.tup (IL a)), .fz (.tup (IL (ys ++ [x]))), .ow (IL R), .ow (IL (List.replicate k 0 ++ part :: tl)), .fz (.int u), .fz (.int k), x7] ∧ Sub p (ys ++ [x]) rest R part k j ∧ Bn (61 + 3721 * (i * (ys.length + 1) + j)) R) ?_)
    refine s_rng1 (s_cons (s_len rfl (o_lenT (s_nil ⟨ys.length + 1, by rw [IL_len, lbs], by omega, ⟨rest, x7, rfl, Nat.zero_le _, rfl, Sub.zero _ _ _ _ _, hB⟩, fun j d S hj hP => ?_, fun S hP => ?_⟩))))
    · obtain ⟨R, x7, _, hj1, rfl, hS, hBR⟩ := hP
      obtain ⟨hj2, rfl⟩ := rng_get hj
      have b1 := bb j
      have b2 : (part * at0 (ys ++ [x]) j).natAbs ≤ 3721 := by
        rw [Int.natAbs_mul]
        exact Nat.mul_le_mul (by omega : part.natAbs ≤ 61) b1
      have b3 := hBR (k + j)
      have lR : k + j < R.length := by rw [hS.len]; omega
      refine ⟨_, rfl, s_last (s_setI rfl (s_bin (s_ixO rfl (s_bin (s_var rfl (s_var rfl (o_add ⟨rfl, ?_⟩)))))))⟩
      refine o_ixL (i := k + j) (by omega) lR (s_bin (s_ixO rfl (s_var rfl ⟨rfl, ?_⟩)))
      have ek : at0 (List.replicate k 0 ++ part :: tl) k = part := by simp [at0]
      refine o_ixL (i := k) rfl (by simp) (s_ixV rfl (s_var rfl (o_ixT (i := j) rfl (by rw [lbs]; exact hj2) ?_)))
      rw [ek]
      refine o_mul (mul64 (by omega) (by omega)) (o_sub ⟨rfl, _, rfl, s_bin (s_var rfl (s_var rfl (o_add ⟨rfl, k + j, by simp, lR, _, .fz (.int j), rfl, hj2, rfl, hS.step (by rw [lbs]; exact hj2) (by omega), ?_⟩)))⟩)
      exact hBR.set (by omega) (by omega)
    · obtain ⟨R, x7, _, hj1, rfl, hS, hBR⟩ := hP
      rw [rng_len] at hS hBR
      refine ⟨R, part :: tl, .fz (.int k), x7, rfl, hi2, by rw [hk3], ?_, by rw [smS]; exact hBR, by simp [htl]⟩
      rw [hk3, ← hpart]
      rw [← hpart, ← lbs] at hS
      exact hD.step hu hS
  · obtain ⟨rest, tl, x6, x7, _, _, rfl, hD, hB, htl⟩ := hP
    have el : (rngD (((IL a).length : Int) - ((IL (ys ++ [x])).length : Int)) (-1) n).length = n := by simp [rngD]
    rw [el] at htl
    rw [el, Nat.sub_self] at hD ⊢
    obtain ⟨h1, h2⟩ := hD.fin (by omega) (by simp)
    refine s_last (s_ret (s_tup (s_cons (s_ap (s_cons (s_var rfl (s_cons (s_varO rfl (s_nil ⟨_, ap_law_trim (ns := tl) (.inl rfl) (by omega) (by omega), ?_⟩)))))))))
    refine s_cons (s_ap (s_cons (s_var rfl (s_cons (s_varO rfl (s_nil ⟨_, ap_law_trim (ns := rest) (.inl rfl) (by omega) (by rw [hD.len]; omega), s_nil ⟨⟨_, _, h1, ?_⟩, Nat.le_of_ble_eq_true rfl⟩⟩))))))
    rw [← h2]
    rfl
end K05


set_option Elab.async false
set_option linter.all false
set_option maxRecDepth 100000
set_option maxHeartbeats 4000000
namespace K05
open PySem PySem.Spec PyProof.Rows L2 Evl Q4 Lib

/-! ### numbers and their parts -/
def inF : Nat → Int → Int → Int → Int × Int
  | 0, n, _, c => (n, c)
  | k + 1, n, q, c => if n % q = 0 then inF k (n / q) q (c + 1) else (n, c)
def endF (n : Int) (acc : List (Int × Int)) : List (Int × Int) := if n > 1 then acc ++ [(n, 1)] else acc
def ouF : Nat → Int → Int → List (Int × Int) → List (Int × Int)
  | 0, n, _, acc => endF n acc
  | k + 1, n, q, acc => if q * q ≤ n then ouF k (inF 64 n q 0).1 (q + if q = 2 then 1 else 2) (if (inF 64 n q 0).2 > 0 then acc ++ [(q, (inF 64 n q 0).2)] else acc) else endF n acc
/-- the primes of n to 99 -/
def prF (n : Int) : List (Int × Int) := ouF 10 n 2 []
def PD (l : List (Int × Int)) : List D := l.map fun x => .tup [.int x.1, .int x.2]
theorem PD_app (l : List (Int × Int)) (a b : Int) : PD l ++ [.tup [.int a, .int b]] = PD (l ++ [(a, b)]) := by simp [PD]
theorem PD_len (l : List (Int × Int)) : (PD l).length = l.length := by simp [PD]
theorem inF_spec : ∀ (k : Nat) (n q c : Int), 1 ≤ n → 2 ≤ q → 1 ≤ (inF k n q c).1 ∧ (inF k n q c).1 ≤ n ∧ c ≤ (inF k n q c).2
  | 0, n, q, c, h, _ => ⟨h, Int.le_refl _, Int.le_refl _⟩
  | k + 1, n, q, c, h, hq => by
    unfold inF
    split
    · rename_i hz
      have h1 : 1 ≤ n / q := by
        have := Int.emod_add_mul_ediv n q
        have h2 : 0 ≤ n / q := Int.ediv_nonneg (by omega) (by omega)
        rcases Int.lt_or_eq_of_le h2 with h3 | h3
        · omega
        · rw [← h3, hz] at this
          omega
      obtain ⟨g1, g2, g3⟩ := inF_spec k (n / q) q (c + 1) h1 hq
      have : n / q ≤ n := Int.ediv_le_self _ (by omega)
      exact ⟨g1, by omega, by omega⟩
    · exact ⟨h, Int.le_refl _, Int.le_refl _⟩
theorem primes_ok {n : Int} (h1 : 1 ≤ n) (h2 : n ≤ 99) : ApL f_primes_of [.int n] (PD (prF n)) := by
  have hc : cap = 10000000 := rfl
  refine apL_fn ?_
  show (m_primes_of [.fz (.int n), .no, .no, .no]).sat _
  refine s_seq (s_asgL (s_lst (s_nil ⟨⟨rfl, rfl, ?_⟩, Nat.le_of_ble_eq_true rfl⟩)))
  refine s_seq (s_asgN (s_C ⟨rfl, rfl, ?_⟩))
  refine s_seq (s_while (fun k S => ∃ (m q : Int) (acc : List (Int × Int)) (x3 : SV), S = [.fz (.int m), .ow (PD acc), .fz (.int q), x3] ∧ 1 ≤ m ∧ m ≤ 99 ∧ 2 ≤ q ∧ 12 ≤ q + k ∧ q ≤ 50 ∧ (acc.length : Int) ≤ q ∧ ouF k m q acc = prF n) (fun k S hP => ?_) 10 _ ⟨n, 2, [], .no, rfl, h1, h2, by decide, by decide, by decide, by decide, rfl⟩)
  obtain ⟨m, q, acc, x3, rfl, hm1, hm2, hq, hk, hq50, hacc, hF⟩ := hP
  refine s_test (s_bin (s_bin (s_var rfl (s_var rfl (o_mul (mul64 (by omega) (by omega)) (s_var rfl (o_le ⟨_, rfl, fun hc => ?_, fun hc => ⟨rfl, ?_⟩⟩)))))))
  · have hqq : q * q ≤ m := of_decide_eq_true hc
    have hq9 : q ≤ 9 := by
      by_cases h : q ≤ 9
      · exact h
      · have : 10 * 10 ≤ q * q := Int.mul_le_mul (by omega) (by omega) (by omega) (by omega)
        omega
    obtain ⟨k', rfl⟩ : ∃ k', k = k' + 1 := ⟨k - 1, by omega⟩
    rw [ouF, if_pos hqq] at hF
    refine s_seq (s_asgN (s_C ⟨rfl, rfl, ?_⟩))
    have q3 : ∀ P : Prop, P → P := fun _ h => h
    refine s_seq (s_while (fun j S => ∃ (m' c : Int), S = [.fz (.int m'), .ow (PD acc), .fz (.int q), .fz (.int c)] ∧ 1 ≤ m' ∧ m' < 2 ^ j ∧ j ≤ 64 ∧ m' ≤ 99 ∧ inF j m' q c = inF 64 m q 0) (fun j S hP => ?_) 64 _ ⟨m, 0, rfl, hm1, by omega, by decide, hm2, rfl⟩)
    obtain ⟨m', c, rfl, hm', hj, hj64, hm99, hin⟩ := hP
    refine s_test (s_bin (s_bin (s_var rfl (s_var rfl (o_mod (by omega) (s_C (o_eq ⟨_, rfl, fun hd => ?_, fun hd => ⟨rfl, ?_⟩⟩)))))))
    · have hd : m' % q = 0 := by simpa using hd
      obtain ⟨j', rfl⟩ : ∃ j', j = j' + 1 := by
        cases j with
        | zero => exfalso; have : (2 : Int) ^ 0 = 1 := rfl; omega
        | succ j' => exact ⟨j', rfl⟩
      rw [inF, if_pos hd] at hin
      have hdiv := Int.emod_add_mul_ediv m' q
      have g1 : 1 ≤ m' / q := by
        have h2 : 0 ≤ m' / q := Int.ediv_nonneg (by omega) (by omega)
        rcases Int.lt_or_eq_of_le h2 with h3 | h3
        · omega
        · rw [← h3, hd] at hdiv; omega
      have g2 : m' / q < 2 ^ j' := by
        have e : (2 : Int) ^ (j' + 1) = 2 ^ j' * 2 := Int.pow_succ ..
        have : 2 * (m' / q) ≤ q * (m' / q) := Int.mul_le_mul_of_nonneg_right hq (by omega)
        omega
      have g3 : m' / q ≤ m' := Int.ediv_le_self _ (by omega)
      have eFd : dIFdiv (.int m') (.int q) = some (.int (m' / q)) := by
        unfold dIFdiv
        simp only
        rw [if_pos ⟨by omega, by omega⟩]
      refine s_seq (s_aug rfl (s_var rfl ⟨_, eFd, rfl, rfl, ?_⟩))
      exact s_last (s_aug rfl (s_C (o_addI ⟨rfl, j', by omega, m' / q, c + 1, rfl, g1, g2, by omega, by omega, hin⟩)))
    · have hd : ¬ m' % q = 0 := by simpa using hd
      have e : inF j m' q c = (m', c) := by
        cases j with
        | zero => rfl
        | succ j' => rw [inF, if_neg hd]
      rw [e] at hin
      rw [← hin] at hF
      refine s_seq (sat_mono (Q := fun f S => f = .nx ∧ ∃ acc' : List (Int × Int), acc' = (if c > 0 then acc ++ [(q, c)] else acc) ∧ S = [.fz (.int m'), .ow (PD acc'), .fz (.int q), .fz (.int c)]) ?_ ?_)
      · refine s_ifS (s_test (s_bin (s_var rfl (s_C (o_gt ⟨_, rfl, fun hd => ?_, fun hd => ?_⟩)))))
        · have hd : 0 < c := of_decide_eq_true hd
          refine s_last (s_app rfl (s_tup (s_cons (s_var rfl (s_cons (s_var rfl (s_nil ⟨⟨_, rfl, by rw [PD_len]; omega, rfl, _, rfl, ?_⟩, Nat.le_of_ble_eq_true rfl⟩)))))))
          rw [if_pos hd, PD_app]
          rfl
        · have hd : ¬ 0 < c := of_decide_eq_false hd
          refine s_nx ⟨rfl, _, rfl, ?_⟩
          rw [if_neg hd]
      rintro _ _ ⟨rfl, acc', ha', rfl⟩
      refine ⟨rfl, ?_⟩
      have hl : (acc'.length : Int) ≤ acc.length + 1 := by
        rw [ha']
        split
        · rw [List.length_append, List.length_singleton]; omega
        · omega
      refine s_last (s_aug rfl (s_if (s_test (s_bin (s_var rfl (s_C (o_eq ⟨_, rfl, fun hd => ?_, fun hd => ?_⟩)))))))
      · have hd : q = 2 := by simpa using hd
        subst hd
        refine s_C (o_addI ⟨rfl, k', by omega, m', 2 + 1, acc', _, rfl, hm', hm99, by decide, by omega, by decide, by omega, ?_⟩)
        rw [← hF, ha', if_pos rfl]
      · have hd : ¬ q = 2 := by simpa using hd
        refine s_C (o_addI ⟨rfl, k', by omega, m', q + 2, acc', _, rfl, hm', hm99, by omega, by omega, by omega, by omega, ?_⟩)
        rw [← hF, ha', if_neg hd]
  · have hqq : ¬ q * q ≤ m := of_decide_eq_false hc
    have hF2 : endF m acc = prF n := by
      rw [← hF]
      cases k with
      | zero => rfl
      | succ k => rw [ouF, if_neg hqq]
    refine s_seq (sat_mono (Q := fun f S => f = .nx ∧ S = [.fz (.int m), .ow (PD (prF n)), .fz (.int q), x3]) ?_ ?_)
    · refine s_ifS (s_test (s_bin (s_var rfl (s_C (o_gt ⟨_, rfl, fun hd => ?_, fun hd => ?_⟩)))))
      · have hd : 1 < m := of_decide_eq_true hd
        refine s_last (s_app rfl (s_tup (s_cons (s_var rfl (s_cons (s_C (s_nil ⟨⟨_, rfl, by rw [PD_len]; omega, rfl, ?_⟩, Nat.le_of_ble_eq_true rfl⟩)))))))
        rw [PD_app, ← hF2, endF, if_pos hd]
        rfl
      · have hd : ¬ 1 < m := of_decide_eq_false hd
        refine s_nx ⟨rfl, ?_⟩
        rw [← hF2, endF, if_neg hd]
    rintro _ _ ⟨rfl, rfl⟩
    exact ⟨rfl, s_last (s_retO rfl rfl)⟩
end K05


set_option Elab.async false
set_option linter.all false
set_option maxRecDepth 100000
set_option maxHeartbeats 4000000
namespace K05
open PySem PySem.Spec PyProof.Rows L2 Evl Q4 Lib

def muF (n : Int) : Int := if (prF n).any (fun x => decide (1 < x.2)) then 0 else 1 - 2 * (((prF n).length : Int) % 2)
def stepF (f : List Int) (x : Int × Int) : List Int := f.flatMap fun a => (List.range (x.2.toNat + 1)).map fun k => a * x.1 ^ k
def dvF (l : List (Int × Int)) : List Int := l.foldl stepF [1]
def dvs (n : Int) : List Int := isort (dvF (prF n))
def pcF (p m : Int) : Int := ((dvs m).map fun d => muF d * p ^ (m / d).toNat).sum / m
def chkF (n : Nat) : Bool := decide ((prF n).length ≤ 10) && (prF n).all (fun x => decide (2 ≤ x.1) && decide (x.1 ≤ 99) && decide (0 ≤ x.2) && decide (x.2 ≤ 10)) &&
  (List.range ((prF n).length + 1)).all fun i => decide ((dvF ((prF n).take i)).length ≤ 200) && (dvF ((prF n).take i)).all fun a => decide (1 ≤ a) && decide (a ≤ 99)
theorem chk_all : (List.range 100).all chkF = true := by decide +kernel
theorem chk {n : Int} (h1 : 0 ≤ n) (h2 : n ≤ 99) : (prF n).length ≤ 10 ∧ (∀ x ∈ prF n, (2 ≤ x.1 ∧ x.1 ≤ 99) ∧ 0 ≤ x.2 ∧ x.2 ≤ 10) ∧ ∀ i, i ≤ (prF n).length → (dvF ((prF n).take i)).length ≤ 200 ∧ ∀ a ∈ dvF ((prF n).take i), 1 ≤ a ∧ a ≤ 99 := by
  obtain ⟨k, rfl⟩ : ∃ k : Nat, n = k := ⟨n.toNat, by omega⟩
  have h := List.all_eq_true.mp chk_all k (List.mem_range.mpr (by omega))
  unfold chkF at h
  simp only [Bool.and_eq_true, decide_eq_true_eq, List.all_eq_true, List.mem_range] at h
  obtain ⟨⟨h3, h4⟩, h5⟩ := h
  exact ⟨h3, fun x hx => by have := h4 x hx; omega, fun i hi => ⟨(h5 i (by omega)).1, fun a ha => (h5 i (by omega)).2 a ha⟩⟩
theorem dvs_ok {n : Int} (h1 : 0 ≤ n) (h2 : n ≤ 99) : (dvs n).length ≤ 200 ∧ ∀ a ∈ dvs n, 1 ≤ a ∧ a ≤ 99 := by
  obtain ⟨_, _, h⟩ := chk h1 h2
  have := h _ (Nat.le_refl _)
  rw [List.take_length] at this
  have hp := isort_perm (dvF (prF n))
  exact ⟨by unfold dvs; rw [hp.length_eq]; exact this.1, fun a ha => this.2 a (hp.mem_iff.mp ha)⟩
theorem mu_abs (n : Int) : (muF n).natAbs ≤ 2 ^ 0 := by
  unfold muF
  split
  · decide
  · show _ ≤ 1
    omega
theorem ap_mu {n : Int} (h1 : 1 ≤ n) (h2 : n ≤ 99) : Ap f_mu [.int n] (.int (muF n)) := by
  have hc : cap = 10000000 := rfl
  obtain ⟨hl, _, _⟩ := chk (by omega) h2
  refine ap_fn ?_
  show (m_mu [.fz (.int n), .no, .no, .no]).sat _
  refine s_seq (s_asgN (s_ap (s_cons (s_var rfl (s_nil ⟨_, (primes_ok h1 h2).ap, rfl, rfl, ?_⟩)))))
  refine s_seqr (s_ifS (s_tru (s_call (s_cons (s_fz (s_map (fun d => match d with | .tup [_, .int c] => .bl (decide (1 < c)) | d => d) ?_))))))
  refine s_items (s_var rfl ⟨_, .inl rfl, rfl, by rw [PD_len]; omega, fun d hd => ?_, ?_⟩)
  · obtain ⟨x, hx, rfl⟩ := List.mem_map.mp hd
    exact ⟨_, rfl, s_yes ⟨rfl, s_bin (s_var rfl (s_C (o_gt ⟨rfl, rfl⟩)))⟩⟩
  have e1 : ((PD (prF n)).map fun d => match d with | .tup [_, .int c] => .bl (decide (1 < c)) | d => d) = ((prF n).map fun x => decide (1 < x.2)).map D.bl := by simp [PD, Function.comp_def]
  rw [e1]
  have e2 : dAny [.lst (((prF n).map fun x => decide (1 < x.2)).map D.bl)] = some (.bl ((prF n).any fun x => decide (1 < x.2))) := by
    unfold dAny
    simp only
    rw [bls?_map]
    simp
  refine s_nil ⟨_, e2, _, rfl, fun hb => ?_, fun hb => s_nx ?_⟩
  · refine s_last (s_ret (s_C ?_))
    unfold muF
    rw [if_pos hb]
  · refine s_last (s_ret (s_bin (s_C (s_bin (s_C (s_bin (s_len rfl (o_lenL (s_C (o_mod (by decide) (o_mul ?_ (o_sub ?_))))))))))))
    · rw [PD_len]
      exact mul64 (by decide) (by omega)
    · unfold muF
      rw [PD_len, if_neg (by rw [hb]; decide)]
theorem step_IL (f : List Int) (q : Int) (c : Nat) : ((IL f).flatMap fun d => (rngD 0 1 (c + 1)).map fun e => match d, e with | .int a, .int k => .int (a * q ^ k.toNat) | _, _ => .non) = IL (stepF f (q, c)) := by
  induction f with
  | nil => rfl
  | cons a r ih =>
    show ((rngD 0 1 (c + 1)).map _) ++ ((IL r).flatMap _) = _
    rw [ih]
    unfold stepF
    rw [List.flatMap_cons, map_rngI (f := fun k => a * q ^ k) fun i hi => by simp only [Int.toNat_natCast]]
    simp [IL, FL]
theorem dvF_take {l : List (Int × Int)} {i : Nat} {x : Int × Int} (h : l[i]? = some x) : dvF (l.take (i + 1)) = stepF (dvF (l.take i)) x := by
  unfold dvF
  rw [List.take_add_one, h, List.foldl_append]
  rfl
theorem len_step (f : List Int) (x : Int × Int) : (IL f).length * (x.2.toNat + 1) = (stepF f x).length := by
  unfold stepF
  rw [IL_len]
  induction f with
  | nil => simp
  | cons a r ih => rw [List.flatMap_cons, List.length_append, ← ih, List.length_cons, Nat.add_mul]; simp; omega
theorem ap_divisors {n : Int} (h1 : 1 ≤ n) (h2 : n ≤ 99) : ApL f_divisors [.int n] (IL (dvs n)) := by
  have hc : cap = 10000000 := rfl
  obtain ⟨hl, hpr, hdv⟩ := chk (by omega : 0 ≤ n) h2
  refine apL_fn ?_
  show (m_divisors [.fz (.int n), .no, .no, .no, .no, .no]).sat _
  refine s_seq (s_asgN (s_fz (s_lst (s_cons (s_C (s_nil ⟨⟨rfl, rfl, ?_⟩, Nat.le_of_ble_eq_true rfl⟩))))))
  refine s_seq (s_for (fun ds i S => ∃ x1 x2 x3 : SV, ds = PD (prF n) ∧ i ≤ (prF n).length ∧ S = [.fz (.int n), x1, x2, x3, .no, .no] ∧ (x1 = .fz (.lst (IL (dvF ((prF n).take i)))) ∨ x1 = .ow (IL (dvF ((prF n).take i))))) ?_)
  refine s_items (s_ap (s_cons (s_var rfl (s_nil ⟨_, (primes_ok h1 h2).ap, _, .inl rfl, ⟨_, .no, .no, rfl, Nat.zero_le _, rfl, .inl rfl⟩, fun i d S hi hP => ?_, fun S hP => ⟨rfl, ?_⟩⟩))))
  · obtain ⟨x1, x2, x3, _, hi1, rfl, hx1⟩ := hP
    obtain ⟨x, hx, rfl⟩ : ∃ x, (prF n)[i]? = some x ∧ d = .tup [.int x.1, .int x.2] := by
      rw [PD, List.getElem?_map] at hi
      obtain ⟨x, hx, e⟩ := Option.map_eq_some_iff.mp hi
      exact ⟨x, hx, e.symm⟩
    have hil : i < (prF n).length := (List.getElem?_eq_some_iff.mp hx).1
    obtain ⟨hq, hc0, hc1⟩ := hpr x (List.mem_of_getElem? hx)
    obtain ⟨hl1, hb1⟩ := hdv i (by omega)
    obtain ⟨hl2, hb2⟩ := hdv (i + 1) hil
    rw [dvF_take hx] at hl2 hb2
    have htk : dvF ((prF n).take (i + 1)) = stepF (dvF ((prF n).take i)) x := dvF_take hx
    generalize dvF ((prF n).take i) = f at *
    obtain ⟨q, cc⟩ := x
    obtain ⟨c, rfl⟩ : ∃ c : Nat, cc = c := ⟨cc.toNat, by have : 0 ≤ cc := hc0; omega⟩
    refine ⟨_, rfl, s_last (s_asgL (s_map2 (fun _ => rngD 0 1 (c + 1)) (fun d e => match d, e with | .int a, .int k => .int (a * q ^ k.toNat) | _, _ => .non) ?_))⟩
    refine s_items (sat_mono (Q := fun d S => d = .lst (IL f) ∧ S = [.fz (.int n), .fz (.lst (IL f)), .fz (.int q), .fz (.int c), .no, .no]) ?_ ?_)
    · rcases hx1 with rfl | rfl
      · exact s_var rfl ⟨rfl, rfl⟩
      · exact s_varO rfl ⟨rfl, rfl⟩
    rintro _ _ ⟨rfl, rfl⟩
    have hq1 : 2 ≤ q := hq.1
    have hq2 : q ≤ 99 := hq.2
    have hcc : c ≤ 10 := by have : (c : Int) ≤ 10 := hc1; omega
    refine ⟨_, .inl rfl, rfl, ?_, fun d hd => ?_, rfl, ?_⟩
    · have : ((IL f).flatMap fun _ => rngD 0 1 (c + 1)).length = (IL f).length * (c + 1) := by
        generalize IL f = g
        induction g with
        | nil => simp
        | cons a r ih => rw [List.flatMap_cons, List.length_append, ih, rng_len, List.length_cons, Nat.add_mul]; omega
      rw [this]
      have := len_step f (q, (c : Int))
      simp only [Int.toNat_natCast] at this
      omega
    · obtain ⟨a, ha, rfl⟩ := List.mem_map.mp hd
      have := hb1 a ha
      refine ⟨_, rfl, s_yes ⟨rfl, s_rng1 (s_cons (s_bin (s_var rfl (s_C (o_add (s_nil ⟨c + 1, by simp, by omega, rfl, rfl, rfl, fun e he => ?_⟩))))))⟩⟩
      obtain ⟨k, hk, rfl⟩ := mem_rng he
      refine ⟨_, rfl, s_yes ⟨rfl, s_bin (s_var rfl (s_ap (s_cons (s_var rfl (s_cons (s_var rfl (s_nil ⟨_, ap_raised (x := q) (e := k) (k := 7) (by omega) (by omega), o_mulB (k := 7) (l := 7 * k) (by omega) (nat_pow (by omega) k) (by omega) ⟨rfl, rfl⟩⟩)))))))⟩⟩
    · refine ⟨.ow (IL (stepF f (q, (c : Int)))), .fz (.int q), .fz (.int c), rfl, hil, ?_, .inr (by rw [htk])⟩
      rw [step_IL]
      rfl
  · obtain ⟨x1, x2, x3, _, hi1, rfl, hx1⟩ := hP
    rw [PD_len, List.take_length] at hx1
    refine s_last (s_retL (s_callL (s_cons (sat_mono (Q := fun d S => d = .lst (IL (dvF (prF n)))) ?_ ?_))))
    · rcases hx1 with rfl | rfl
      · exact s_var rfl rfl
      · exact s_varO rfl rfl
    rintro _ S rfl
    exact s_nil (o_sorted (ns := dvF (prF n)) rfl (ints_IL _))
theorem ap_prime_count {p m : Int} (hp : 0 ≤ p) (hp2 : p ≤ 61) (h1 : 1 ≤ m) (h2 : m ≤ 99) : Ap f_prime_count [.int p, .int m] (.int (pcF p m)) := by
  have hc : cap = 10000000 := rfl
  obtain ⟨hl, hd⟩ := dvs_ok (by omega : 0 ≤ m) h2
  refine ap_fn ?_
  show (m_prime_count [.fz (.int p), .fz (.int m), .no]).sat _
  refine s_last (s_ret (s_bin (s_call (s_cons (s_fz (s_map (fun d => match d with | .int a => .int (muF a * p ^ (m / a).toNat) | d => d) ?_))))))
  refine s_items (s_ap (s_cons (s_var rfl (s_nil ⟨_, (ap_divisors h1 h2).ap, _, .inl rfl, rfl, by rw [IL_len]; omega, fun d hd' => ?_, ?_⟩))))
  · obtain ⟨a, ha, rfl⟩ := List.mem_map.mp hd'
    obtain ⟨a1, a2⟩ := hd a ha
    have hq0 : 0 ≤ m / a := Int.ediv_nonneg (by omega) (by omega)
    have hq1 : m / a ≤ m := Int.ediv_le_self _ (by omega)
    refine ⟨_, rfl, s_yes ⟨rfl, s_bin (s_ap (s_cons (s_var rfl (s_nil ⟨_, ap_mu a1 a2, s_ap (s_cons (s_var rfl (s_cons (s_bin (s_var rfl (s_var rfl (o_fdiv ⟨by omega, ?_⟩ ?_)))))))⟩))))⟩⟩
    · have : a.natAbs.log2 ≤ 63 := log2_small (by omega)
      omega
    · obtain ⟨e, he⟩ : ∃ e : Nat, m / a = e := ⟨(m / a).toNat, by omega⟩
      rw [he]
      refine s_nil ⟨_, ap_raised (x := p) (e := e) (k := 6) (by omega) (by omega), o_mulB (mu_abs a) (nat_pow (k := 6) (by omega) e) (by omega) ⟨?_, rfl⟩⟩
      simp only [he, Int.toNat_natCast]
  · have e1 : ((IL (dvs m)).map fun d => match d with | .int a => .int (muF a * p ^ (m / a).toNat) | d => d) = IL ((dvs m).map fun a => muF a * p ^ (m / a).toNat) := by simp [IL, Function.comp_def]
    rw [e1]
    refine s_nil (o_sum (s_var rfl (o_fdiv ⟨by omega, ?_⟩ rfl)))
    have : m.natAbs.log2 ≤ 63 := log2_small (by omega)
    omega
end K05


set_option Elab.async false
set_option linter.all false
set_option maxRecDepth 100000
set_option maxHeartbeats 4000000
namespace K05
open PySem PySem.Spec PyProof.Rows L2 Evl Q4 Lib

/-! ### a polynomial by its index -/
theorem idx_inj {p : Int} (hp : 2 ≤ p) : ∀ a b : List Int, Dig p a → Dig p b → NZ a → NZ b → idx p a = idx p b → a = b
  | [], [], _, _, _, _, _ => rfl
  | [], y :: b, _, hb, _, nb, e => by
    have := idx_pos (by omega) (by simp) hb nb
    rw [← e] at this
    exact absurd this (by simp)
  | x :: a, [], ha, _, na, _, e => by
    have := idx_pos (by omega) (by simp) ha na
    rw [e] at this
    exact absurd this (by simp)
  | x :: a, y :: b, ha, hb, na, nb, e => by
    rw [idx_cons, idx_cons] at e
    have hx := ha x (by simp)
    have hy := hb y (by simp)
    have ex : x = y := by
      have h1 : (idx p a * p + x) % p = x := by rw [Int.add_comm, Int.add_mul_emod_self_right, Int.emod_eq_of_lt hx.1 hx.2]
      have h2 : (idx p b * p + y) % p = y := by rw [Int.add_comm, Int.add_mul_emod_self_right, Int.emod_eq_of_lt hy.1 hy.2]
      rw [← h1, e, h2]
    subst ex
    have e2 : idx p a = idx p b := Int.eq_of_mul_eq_mul_right (by omega : p ≠ 0) (by omega)
    rw [idx_inj hp a b (fun z hz => ha z (by simp [hz])) (fun z hz => hb z (by simp [hz])) na.tail nb.tail e2]
open Classical in
noncomputable def dgP (p n : Int) : List Int := if h : ∃ ns : List Int, Dig p ns ∧ NZ ns ∧ idx p ns = n then Classical.choose h else []
theorem dg_eq {p : Int} (hp : 2 ≤ p) {ns : List Int} (hd : Dig p ns) (hn : NZ ns) : dgP p (idx p ns) = ns := by
  have ex : ∃ ms : List Int, Dig p ms ∧ NZ ms ∧ idx p ms = idx p ns := ⟨ns, hd, hn, rfl⟩
  unfold dgP
  rw [dif_pos ex]
  obtain ⟨h1, h2, h3⟩ := Classical.choose_spec ex
  exact idx_inj hp _ _ h1 hd h2 hn h3
theorem dg_at {p n : Int} (hp : 2 ≤ p) {ns : List Int} (hd : Dig p ns) (hn : NZ ns) (e : idx p ns = n) : dgP p n = ns := by rw [← e, dg_eq hp hd hn]
theorem dg_spec {p n : Int} (hp : 2 ≤ p) (h0 : 0 ≤ n) {k : Nat} (hk : n < 2 ^ k) : Dig p (dgP p n) ∧ NZ (dgP p n) ∧ idx p (dgP p n) = n ∧ (dgP p n).length ≤ k := by
  obtain ⟨ns, h1, h2, h3, h4⟩ := digits_short hp h0 hk
  rw [dg_at hp h1 h2 h3]
  exact ⟨h1, h2, h3, h4⟩
theorem ap_dg {p n : Int} (hp : 2 ≤ p) (hp2 : p < 64) (h0 : 0 ≤ n) (hk : n < 2 ^ 1000) : Ap f_of_index [.int p, .int n] (.tup (IL (dgP p n))) := by
  obtain ⟨h1, h2, h3, h4⟩ := dg_spec hp h0 hk
  have hc : cap = 10000000 := rfl
  have := ap_of_index (by omega) hp2 h1 h2 (by omega)
  rw [h3] at this
  exact this
/-! ### monic ones -/
/-- monic, of degree k -/
def MN (p : Int) (k : Nat) (a : List Int) : Prop := Dig p a ∧ ∃ ys : List Int, a = ys ++ [1] ∧ ys.length = k
theorem MN.nz {p : Int} {k : Nat} {a : List Int} (h : MN p k a) : NZ a := by
  obtain ⟨_, ys, rfl, _⟩ := h
  exact NZ_snoc (by decide) ys
theorem MN.len {p : Int} {k : Nat} {a : List Int} (h : MN p k a) : a.length = k + 1 := by
  obtain ⟨_, ys, rfl, e⟩ := h
  simp [e]
theorem MN.idx {p : Int} (hp : 2 ≤ p) {k : Nat} {a : List Int} (h : MN p k a) : p ^ k ≤ Lib.idx p a ∧ Lib.idx p a < p ^ k + p ^ k := by
  obtain ⟨hd, ys, rfl, e⟩ := h
  have hy : Dig p ys := fun x hx => hd x (by simp [hx])
  have h1 := idx_nonneg (by omega) hy
  have h2 := idx_lt (by omega) hy
  rw [idx_snoc, e]
  rw [e] at h2
  omega
/-- the list to its index -/
theorem MN.of {p : Int} (hp : 2 ≤ p) {k : Nat} {i : Int} (h0 : 0 ≤ i) (h1 : i < p ^ k) : MN p k (dgP p (p ^ k + i)) := by
  -- the digits of i, filled up with zeros, and 1
  have pad : ∀ (k : Nat) (i : Int), 0 ≤ i → i < p ^ k → ∃ ys : List Int, Dig p ys ∧ ys.length = k ∧ Lib.idx p ys = i := fun k => by
    induction k with
    | zero => exact fun i h0 h1 => ⟨[], fun x hx => (by cases hx), rfl, by rw [Int.pow_zero] at h1; rw [idx_nil]; omega⟩
    | succ k ih =>
      intro i h0 h1
      have e := Int.emod_add_mul_ediv i p
      have r0 := Int.emod_nonneg i (b := p) (by omega)
      have r1 := Int.emod_lt_of_pos i (b := p) (by omega)
      have q0 : 0 ≤ i / p := Int.ediv_nonneg h0 (by omega)
      have q1 : i / p < p ^ k := Int.ediv_lt_of_lt_mul (by omega) (by rw [← Int.pow_succ]; exact h1)
      obtain ⟨ys, h1, h2, h3⟩ := ih (i / p) q0 q1
      refine ⟨(i % p) :: ys, fun x hx => ?_, by simp [h2], by rw [idx_cons, h3, Int.mul_comm]; omega⟩
      rcases List.mem_cons.mp hx with rfl | hx
      · exact ⟨r0, r1⟩
      · exact h1 x hx
  obtain ⟨ys, h2, h3, h4⟩ := pad k i h0 h1
  have hd : Dig p (ys ++ [1]) := fun x hx => by
    rcases List.mem_append.mp hx with hx | hx
    · exact h2 x hx
    · rw [List.mem_singleton.mp hx]; omega
  have e : dgP p (p ^ k + i) = ys ++ [1] := dg_at hp hd (NZ_snoc (by decide) ys) (by rw [idx_snoc, h3, h4]; omega)
  rw [e]
  exact ⟨hd, ys, rfl, h3⟩
def mnF (P : Nat) : Nat → List (List Int)
  | 0 => [[1]]
  | k + 1 => (mnF P k).flatMap fun row => (List.range P).map fun x : Nat => (x : Int) :: row
theorem fm_congr {α β : Type} {f g : α → List β} : ∀ {l : List α}, (∀ x ∈ l, f x = g x) → l.flatMap f = l.flatMap g
  | [], _ => rfl
  | a :: r, h => by rw [List.flatMap_cons, List.flatMap_cons, h a (by simp), fm_congr fun x hx => h x (by simp [hx])]
theorem flat_range {α : Type} (f : Nat → α) (b : Nat) : ∀ a : Nat, ((List.range a).flatMap fun j => (List.range b).map fun x => f (j * b + x)) = (List.range (a * b)).map f
  | 0 => by simp
  | a + 1 => by
    rw [List.range_succ, List.flatMap_append, flat_range f b a, Nat.add_mul, Nat.one_mul, List.range_add, List.map_append]
    simp [Function.comp_def]
theorem mn_range {P : Nat} (hP : 2 ≤ P) : ∀ k : Nat, mnF P k = (List.range (P ^ k)).map fun i : Nat => dgP P ((P : Int) ^ k + i)
  | 0 => by
    have : dgP P ((P : Int) ^ 0 + ((0 : Nat) : Int)) = [1] := dg_at (by omega) (fun x hx => by rw [List.mem_singleton.mp hx]; omega) (by show (1 : Int) ≠ 0; decide) (by simp)
    simp only [mnF, Nat.pow_zero, List.range_one, List.map_singleton, this]
  | k + 1 => by
    rw [mnF, mn_range hP k, List.flatMap_map, Nat.pow_succ, ← flat_range (fun i : Nat => dgP P ((P : Int) ^ (k + 1) + i)) P (P ^ k)]
    refine fm_congr fun j hj => ?_
    have hj := List.mem_range.mp hj
    refine List.map_congr_left fun x hx => ?_
    have hx := List.mem_range.mp hx
    have hjz : ((j : Nat) : Int) < (P : Int) ^ k := by exact_mod_cast hj
    obtain ⟨hd, ys, e, hl⟩ := MN.of (p := P) (k := k) (i := j) (by omega) (by omega) hjz
    obtain ⟨hd2, _⟩ : Dig P (dgP P ((P : Int) ^ k + j)) ∧ True := ⟨hd, trivial⟩
    have hix : Lib.idx P (dgP P ((P : Int) ^ k + j)) = (P : Int) ^ k + j := by
      have hb := MN.of (p := P) (k := k) (i := j) (by omega) (by omega) hjz
      -- the index of what stands at it
      obtain ⟨ms, g1, g2, g3, g4⟩ := digits (p := (P : Int)) (by omega) (((P : Int) ^ k + j).toNat)
      have g3' : Lib.idx P ms = (P : Int) ^ k + j := by
        rw [g3]
        have : 0 ≤ (P : Int) ^ k := Int.le_of_lt (Int.pow_pos (by omega))
        omega
      rw [dg_at (by omega) g1 g2 g3', g3']
    symm
    refine dg_at (by omega) (fun z hz => ?_) ?_ ?_
    · rcases List.mem_cons.mp hz with rfl | hz
      · omega
      · exact hd z hz
    · rw [e]
      cases ys with
      | nil => show (1 : Int) ≠ 0; decide
      | cons y r => exact NZ_snoc (by decide) (y :: r)
    · rw [idx_cons, hix, Int.pow_succ, Int.add_mul]
      push_cast
      omega
theorem mem_mn {P : Nat} (hP : 2 ≤ P) {k : Nat} {a : List Int} : a ∈ mnF P k ↔ MN P k a := by
  constructor
  · intro h
    rw [mn_range hP] at h
    obtain ⟨i, hi, rfl⟩ := List.mem_map.mp h
    exact MN.of (by omega) (by omega) (by exact_mod_cast List.mem_range.mp hi)
  · intro h
    obtain ⟨h1, h2⟩ := h.idx (p := P) (by omega)
    have pw : 0 ≤ (P : Int) ^ k := Int.le_of_lt (Int.pow_pos (by omega))
    rw [mn_range hP]
    refine List.mem_map.mpr ⟨(Lib.idx P a - (P : Int) ^ k).toNat, List.mem_range.mpr ?_, ?_⟩
    · have : (((P ^ k : Nat) : Int)) = (P : Int) ^ k := by push_cast; rfl
      omega
    · rw [Int.toNat_of_nonneg (by omega), show (P : Int) ^ k + (Lib.idx P a - (P : Int) ^ k) = Lib.idx P a by omega, dg_eq (by omega) h.1 h.nz]
theorem mn_len (P : Nat) : ∀ k, (mnF P k).length = P ^ k
  | 0 => rfl
  | k + 1 => by
    rw [mnF, Nat.pow_succ, ← mn_len P k]
    generalize mnF P k = l
    induction l with
    | nil => simp
    | cons a r ih => rw [List.flatMap_cons, List.length_append, ih, List.length_cons, Nat.add_mul]; simp; omega
/-- products of monic ones -/
theorem MN.mul {p : Int} (hp : p ∈ P61) {k l : Nat} {a b : List Int} (ha : MN p k a) (hb : MN p l b) : MN p (k + l) (mulC p a b) := by
  have hpb := P61_le p hp
  refine ⟨mulC_dig (by omega) _ _, ?_⟩
  obtain ⟨_, ys, rfl, e1⟩ := ha
  obtain ⟨_, zs, rfl, e2⟩ := hb
  obtain ⟨ws, e3, e4⟩ := mulC_end hp (ys := ys) (zs := zs) (x := 1) (y := 1) (by omega) (by omega)
  rw [Int.one_mul, Int.emod_eq_of_lt (by decide) (by omega)] at e3
  exact ⟨ws, e3, by omega⟩
theorem MN.quo {p : Int} (hp : p ∈ P61) {k n : Nat} {a b q : List Int} (ha : MN p n a) (hb : MN p k b) (hk : k ≤ n) (hq : Dig p q) (nq : NZ q) (e : a = mulC p b q) : MN p (n - k) q := by
  have hpb := P61_le p hp
  have a0 : a ≠ [] := by obtain ⟨_, ys, rfl, _⟩ := ha; simp
  have b0 : b ≠ [] := by obtain ⟨_, ys, rfl, _⟩ := hb; simp
  have q0 : q ≠ [] := fun z => a0 (by rw [e, mulC_nil (by omega) (.inr z)])
  have hl := mulC_length hp hb.1 hb.nz hq nq b0 q0
  rw [← e, ha.len, hb.len] at hl
  refine ⟨hq, ?_⟩
  rcases NZ_end nq with rfl | ⟨ys, x, rfl, hx⟩
  · exact absurd rfl q0
  have hxp := dig_last hq hx
  obtain ⟨_, zs, rfl, e1⟩ := hb
  obtain ⟨ws, e3, e4⟩ := mulC_end hp (ys := zs) (zs := ys) (x := 1) (y := x) (by omega) hxp
  obtain ⟨_, as, rfl, e2⟩ := ha
  rw [e3, Int.one_mul, Int.emod_eq_of_lt (by omega) hxp.2] at e
  have ex : (1 : Int) = x := by
    have := congrArg List.getLast? e
    simpa using this
  subst ex
  exact ⟨ys, rfl, by simp at hl; omega⟩
end K05


set_option Elab.async false
set_option linter.all false
set_option maxRecDepth 100000
set_option maxHeartbeats 4000000
namespace K05
open PySem PySem.Spec PyProof.Rows L2 Evl Q4 Lib

/-- a list of polynomials -/
def ML (l : List (List Int)) : List D := l.map fun a => .tup (IL a)
theorem ML_len (l : List (List Int)) : (ML l).length = l.length := by simp [ML]
theorem ML_app (l m : List (List Int)) : ML l ++ ML m = ML (l ++ m) := by simp [ML]
theorem ML_get {l : List (List Int)} {i : Nat} {d : D} (h : (ML l)[i]? = some d) : ∃ a, l[i]? = some a ∧ d = .tup (IL a) := by
  rw [ML, List.getElem?_map] at h
  obtain ⟨a, ha, e⟩ := Option.map_eq_some_iff.mp h
  exact ⟨a, ha, e.symm⟩
theorem flat_take {α β : Type} {f : α → List β} {l : List α} {i : Nat} {a : α} (h : l[i]? = some a) : (l.take (i + 1)).flatMap f = (l.take i).flatMap f ++ f a := by
  rw [List.take_add_one, h, List.flatMap_append]
  simp
theorem pow_mono {P : Nat} (hP : 1 ≤ P) {i m : Nat} (h : i ≤ m) : P ^ i ≤ P ^ m := Nat.pow_le_pow_right hP h
theorem ap_monics {P m : Nat} (hP : 2 ≤ P) (hP2 : P ≤ 61) (hm : P ^ m ≤ 5000) (hm2 : m ≤ 40) : Ap f_law_monics [.int P, .int m] (.lst (ML (mnF P m))) := by
  have hc : cap = 10000000 := rfl
  refine ap_fn ?_
  show (m_law_monics [.fz (.int P), .fz (.int m), .no, .no, .no, .no, .no]).sat _
  refine s_seq (s_asgN (s_fz (s_lst (s_cons (s_tup (s_cons (s_C (s_nil ⟨s_nil ⟨⟨rfl, rfl, ?_⟩, Nat.le_of_ble_eq_true rfl⟩, Nat.le_of_ble_eq_true rfl⟩))))))))
  refine s_seq (s_for (fun ds i S => ∃ x3 x4 x5 : SV, ds = rngD 0 1 m ∧ i ≤ m ∧ S = [.fz (.int P), .fz (.int m), .fz (.lst (ML (mnF P i))), x3, x4, x5, .no]) ?_)
  refine s_rng1 (s_cons (s_var rfl (s_nil ⟨m, rfl, by omega, ⟨.no, .no, .no, rfl, Nat.zero_le _, rfl⟩, fun i d S hi hP' => ?_, fun S hP' => ⟨rfl, ?_⟩⟩)))
  · obtain ⟨x3, x4, x5, _, hi1, rfl⟩ := hP'
    obtain ⟨hi2, rfl⟩ := rng_get hi
    refine ⟨_, rfl, s_seq (s_asgN (s_fz (s_lst (s_nil ⟨⟨rfl, rfl, ?_⟩, Nat.le_of_ble_eq_true rfl⟩))))⟩
    have hlen : (mnF P i).length ≤ 5000 := by rw [mn_len]; exact Nat.le_trans (pow_mono (by omega) (by omega)) hm
    have hlen2 : (mnF P (i + 1)).length ≤ 5000 := by rw [mn_len]; exact Nat.le_trans (pow_mono (by omega) (by omega)) hm
    refine s_seq (s_for (fun ds j S => ∃ x5 : SV, ds = ML (mnF P i) ∧ j ≤ (mnF P i).length ∧ S = [.fz (.int P), .fz (.int m), .fz (.lst (ML (mnF P i))), .fz (.int i), .fz (.lst (ML (((mnF P i).take j).flatMap fun row => (List.range P).map fun x : Nat => (x : Int) :: row))), x5, .no]) ?_)
    refine s_items (s_var rfl ⟨_, .inl rfl, ⟨x5, rfl, Nat.zero_le _, rfl⟩, fun j d S hj hP' => ?_, fun S hP' => ⟨rfl, ?_⟩⟩)
    · obtain ⟨x5, _, hj1, rfl⟩ := hP'
      obtain ⟨a, ha, rfl⟩ := ML_get hj
      have hjl := (List.getElem?_eq_some_iff.mp ha).1
      have hmn := (mem_mn hP).mp (List.mem_of_getElem? ha)
      have hal := hmn.len
      have hbnd : ((((mnF P i).take j).flatMap fun row => (List.range P).map fun x : Nat => (x : Int) :: row)).length + P ≤ 5000 := by
        have e1 : (((mnF P i).take (j + 1)).flatMap fun row => (List.range P).map fun x : Nat => (x : Int) :: row).length ≤ (mnF P (i + 1)).length := by
          conv => rhs; rw [mnF, ← List.take_append_drop (j + 1) (mnF P i), List.flatMap_append, List.length_append]
          omega
        rw [flat_take ha, List.length_append, List.length_map, List.length_range] at e1
        omega
      refine ⟨_, rfl, s_last (s_asgN (s_bin (s_var rfl (s_fz (s_map (fun d => match d with | .int x => .tup (IL (x :: a)) | d => d) ?_)))))⟩
      refine s_rng1 (s_cons (s_var rfl (s_nil ⟨P, rfl, by omega, rfl, by rw [rng_len]; omega, fun d hd => ?_, ?_⟩)))
      · obtain ⟨x, hx, rfl⟩ := mem_rng hd
        refine ⟨_, rfl, s_yes ⟨rfl, s_bin (s_tup (s_cons (s_var rfl (s_nil ⟨s_var rfl (o_catT (by rw [IL_len]; simp; omega) ⟨rfl, rfl⟩), Nat.le_of_ble_eq_true rfl⟩))))⟩⟩
      · have e1 : ((rngD 0 1 P).map fun d => match d with | .int x => .tup (IL (x :: a)) | d => d) = ML ((List.range P).map fun x : Nat => (x : Int) :: a) := by
          rw [map_rng, ML, List.map_map]
          rfl
        rw [e1]
        refine o_catL (by rw [ML_len, ML_len, List.length_map, List.length_range]; omega) ⟨rfl, .fz (.tup (IL a)), rfl, hjl, ?_⟩
        rw [ML_app, flat_take ha]
        rfl
    · obtain ⟨x5, _, hj1, rfl⟩ := hP'
      rw [ML_len, List.take_length]
      exact s_last (s_asgN (s_var rfl ⟨rfl, .fz (.int i), _, x5, rfl, hi2, rfl⟩))
  · obtain ⟨x3, x4, x5, _, hi1, rfl⟩ := hP'
    rw [rng_len]
    exact s_last (s_retV rfl rfl)
/-! ### parted -/
def PtP (P : Nat) (a : List Int) : Prop := ∃ mm, 1 ≤ mm ∧ mm ≤ (a.length - 1) / 2 ∧ ∃ one ∈ mnF P mm, (dvP P a one).2 = []
open Classical in
theorem ap_parted {P m : Nat} {a : List Int} (hp : ((P : Nat) : Int) ∈ P61) (ha : MN P m a) (hm : P ^ m ≤ 5000) (hm2 : m ≤ 40) (h1 : 1 ≤ m) : Ap f_law_parted [.int P, .tup (IL a)] (.bl (decide (PtP P a))) := by
  have hpb := P61_le _ hp
  refine ap_fn ?_
  show (m_law_parted [.fz (.int P), .fz (.tup (IL a)), .no, .no]).sat _
  have hal := ha.len
  refine s_seqr (s_for (fun ds i S => ∃ x2 x3 : SV, ds = rngD 1 1 (m / 2) ∧ i ≤ m / 2 ∧ S = [.fz (.int P), .fz (.tup (IL a)), x2, x3] ∧ ∀ mm, 1 ≤ mm → mm ≤ i → ∀ one ∈ mnF P mm, (dvP P a one).2 ≠ []) ?_)
  refine s_rng2 (s_cons (s_C (s_cons (s_bin (s_bin (s_bin (s_len rfl (o_lenT (s_C (o_sub (s_C (o_fdiv ⟨by decide, by decide⟩ (s_C (o_add (s_nil ⟨1, _, rfl, by omega, ?_, ?_⟩)))))))))))))))
  · rw [IL_len, hal]; omega
  rw [show ((((IL a).length : Int) - 1) / 2 + 1 - 1).toNat = m / 2 by rw [IL_len, hal]; omega]
  refine ⟨⟨.no, .no, rfl, Nat.zero_le _, rfl, fun mm h1 h2 => by omega⟩, fun i d S hi hP' => ?_, fun S hP' => ?_⟩
  · obtain ⟨x2, x3, _, hi1, rfl, hno⟩ := hP'
    obtain ⟨hi2, rfl⟩ := rng1_get hi
    refine ⟨_, rfl, s_last (s_for (fun ds j S => ∃ x3 : SV, ds = ML (mnF P (i + 1)) ∧ S = [.fz (.int P), .fz (.tup (IL a)), .fz (.int ((i + 1 : Nat) : Int)), x3] ∧ ∀ one ∈ (mnF P (i + 1)).take j, (dvP P a one).2 ≠ []) ?_)⟩
    refine s_items (s_ap (s_cons (s_var rfl (s_cons (s_var rfl (s_nil ⟨_, ap_monics (P := P) (m := i + 1) (by omega) (by omega) (Nat.le_trans (pow_mono (by omega) (by omega)) hm) (by omega), _, .inl rfl, ⟨x3, rfl, rfl, fun one h => by simp at h⟩, fun j d S hj hP' => ?_, fun S hP' => ?_⟩))))))
    · obtain ⟨x3, _, rfl, hno2⟩ := hP'
      obtain ⟨one, hone, rfl⟩ := ML_get hj
      have hmem := List.mem_of_getElem? hone
      have hmn := (mem_mn (by omega)).mp hmem
      obtain ⟨q, r, hD, hA⟩ := law_div_ok hp ha.1 hmn.1 hmn.nz (by obtain ⟨_, ys, rfl, _⟩ := hmn; simp) (by omega) (by rw [hmn.len]; omega)
      have hdv := dvP_eq hp hmn.1 hmn.nz hD
      have hr : (dvP P a one).2 = r := by rw [hdv]
      refine ⟨_, rfl, s_last (s_ifS (s_test (s_bin (s_bin (s_ap (s_cons (s_var rfl (s_cons (s_var rfl (s_cons (s_var rfl (s_nil ⟨_, hA, s_C ⟨_, rfl, s_tup (s_nil ⟨⟨_, eqX_T r [], _, rfl, fun z => ?_, fun z => ?_⟩, Nat.zero_le _⟩)⟩⟩))))))))))))⟩
      · have z := of_decide_eq_true z
        refine s_last (s_ret (s_C ?_))
        have : PtP P a := ⟨i + 1, by omega, by rw [hal]; omega, one, hmem, by rw [hr, z]⟩
        show Fl.rt (D.bl true) = _
        rw [decide_eq_true this]
      · have z := of_decide_eq_false z
        refine s_nx ⟨.fz (.tup (IL one)), rfl, rfl, fun o ho => ?_⟩
        rw [List.take_add_one, hone] at ho
        rcases List.mem_append.mp ho with ho | ho
        · exact hno2 o ho
        · have : o = one := by simpa using ho
          rw [this, hr]
          exact z
    · obtain ⟨x3, _, rfl, hno2⟩ := hP'
      rw [ML_len, List.take_length] at hno2
      refine ⟨_, x3, rfl, hi2, rfl, fun mm h1 h2 => ?_⟩
      by_cases e : mm = i + 1
      · rw [e]; exact hno2
      · exact hno mm h1 (by omega)
  · obtain ⟨x2, x3, _, hi1, rfl, hno⟩ := hP'
    rw [rng1_len] at hno
    refine s_last (s_ret (s_C ?_))
    have : ¬ PtP P a := fun ⟨mm, h1, h2, one, h3, h4⟩ => hno mm h1 (by rw [hal] at h2; omega) one h3 h4
    rw [decide_eq_false this]
/-! ### products of lesser ones -/
noncomputable def prI (P m low f s : Nat) : Nat := (Lib.idx P (mulC P (dgP P ((P : Int) ^ low + f)) (dgP P ((P : Int) ^ (m - low) + s))) - (P : Int) ^ m).toNat
def PmP (P m i : Nat) : Prop := ∃ low f s, 1 ≤ low ∧ low ≤ m / 2 ∧ f < P ^ low ∧ s < P ^ (m - low) ∧ i = prI P m low f s
theorem pow_cast (P k : Nat) : (((P ^ k : Nat)) : Int) = (P : Int) ^ k := by push_cast; rfl
theorem prI_ok {P m low f s : Nat} (hp : ((P : Nat) : Int) ∈ P61) (hl : low ≤ m) (hf : f < P ^ low) (hs : s < P ^ (m - low)) :
    MN P low (dgP P ((P : Int) ^ low + f)) ∧ MN P (m - low) (dgP P ((P : Int) ^ (m - low) + s)) ∧ Lib.idx P (mulC P (dgP P ((P : Int) ^ low + f)) (dgP P ((P : Int) ^ (m - low) + s))) = (P : Int) ^ m + (prI P m low f s : Nat) ∧ prI P m low f s < P ^ m := by
  have hpb := P61_le _ hp
  have h1 : MN P low (dgP P ((P : Int) ^ low + f)) := MN.of (by omega) (by omega) (by rw [← pow_cast]; omega)
  have h2 : MN P (m - low) (dgP P ((P : Int) ^ (m - low) + s)) := MN.of (by omega) (by omega) (by rw [← pow_cast]; omega)
  have h3 := MN.mul hp h1 h2
  rw [show low + (m - low) = m by omega] at h3
  obtain ⟨g1, g2⟩ := h3.idx (by omega)
  have hc := pow_cast P m
  refine ⟨h1, h2, ?_, ?_⟩
  · unfold prI
    omega
  · unfold prI
    omega
/-- parted is what has a part -/
theorem parted_iff {P m i : Nat} (hp : ((P : Nat) : Int) ∈ P61) (hi : i < P ^ m) (h1 : 1 ≤ m) (hm2 : m ≤ 40) : PmP P m i ↔ PtP P (dgP P ((P : Int) ^ m + i)) := by
  have hpb := P61_le _ hp
  have ha : MN P m (dgP P ((P : Int) ^ m + i)) := MN.of (by omega) (by omega) (by rw [← pow_cast]; omega)
  have hal := ha.len
  constructor
  · rintro ⟨low, f, s, l1, l2, hf, hs, rfl⟩
    obtain ⟨g1, g2, g3, g4⟩ := prI_ok (m := m) hp (by omega) hf hs
    have hmul := MN.mul hp g1 g2
    have e : dgP P ((P : Int) ^ m + (prI P m low f s : Nat)) = mulC P (dgP P ((P : Int) ^ low + f)) (dgP P ((P : Int) ^ (m - low) + s)) := dg_at (by omega) hmul.1 hmul.nz g3
    refine ⟨low, l1, by rw [hal]; omega, _, (mem_mn (by omega)).mpr g1, ?_⟩
    rw [e]
    refine (congrArg Prod.snd (dvP_eq hp g1.1 g1.nz (q := dgP P ((P : Int) ^ (m - low) + s)) (r := []) ⟨g2.1, g2.nz, fun x hx => (by cases hx), trivial, by rw [g1.len]; simp, ?_⟩))
    exact (mulC_md P _ _).trans (Md.of_eq fun B => by simp)
  · rintro ⟨mm, h2, h3, one, h4, h5⟩
    rw [hal] at h3
    have hone := (mem_mn (by omega)).mp h4
    obtain ⟨q, r, hD, _⟩ := law_div_ok hp ha.1 hone.1 hone.nz (by obtain ⟨_, ys, rfl, _⟩ := hone; simp) (by omega) (by rw [hone.len]; omega)
    rw [dvP_eq hp hone.1 hone.nz hD] at h5
    have h5 : r = [] := h5
    subst h5
    have ea : dgP P ((P : Int) ^ m + i) = mulC P one q := cn_uniq (by omega) ha.1 ha.nz (mulC_dig (by omega) _ _) (mulC_nz _ _ _) (hD.2.2.2.2.2.trans ((Md.of_eq fun B => by simp).trans (mulC_md P one q).symm))
    have hq := MN.quo hp ha hone (by omega) hD.1 hD.2.1 ea
    obtain ⟨o1, o2⟩ := hone.idx (p := P) (by omega)
    obtain ⟨q1, q2⟩ := hq.idx (p := P) (by omega)
    have c1 := pow_cast P mm
    have c2 := pow_cast P (m - mm)
    have c3 := pow_cast P m
    have eo : dgP P ((P : Int) ^ mm + ((Lib.idx P one - (P : Int) ^ mm).toNat : Nat)) = one := by
      rw [show (P : Int) ^ mm + ((Lib.idx P one - (P : Int) ^ mm).toNat : Nat) = Lib.idx P one by omega, dg_eq (by omega) hone.1 hone.nz]
    have eq : dgP P ((P : Int) ^ (m - mm) + ((Lib.idx P q - (P : Int) ^ (m - mm)).toNat : Nat)) = q := by
      rw [show (P : Int) ^ (m - mm) + ((Lib.idx P q - (P : Int) ^ (m - mm)).toNat : Nat) = Lib.idx P q by omega, dg_eq (by omega) hq.1 hq.nz]
    refine ⟨mm, (Lib.idx P one - (P : Int) ^ mm).toNat, (Lib.idx P q - (P : Int) ^ (m - mm)).toNat, h2, by omega, by omega, by omega, ?_⟩
    unfold prI
    rw [eo, eq, ← ea]
    have hia : Lib.idx P (dgP P ((P : Int) ^ m + i)) = (P : Int) ^ m + i := by
      obtain ⟨ms, g1, g2, g3, g4⟩ := digits (p := (P : Int)) (by omega) (P ^ m + i)
      have g3' : Lib.idx P ms = (P : Int) ^ m + i := by rw [g3]; push_cast; rfl
      rw [dg_at (by omega) g1 g2 g3', g3']
    rw [hia]
    omega
end K05


set_option Elab.async false
set_option linter.all false
set_option maxRecDepth 100000
set_option maxHeartbeats 4000000
namespace K05
open PySem PySem.Spec PyProof.Rows L2 Evl Q4 Lib

/-! ### what raises -/
section
variable {S S' : SS} {c : Str} {pl : D} {m ms a b : M Fl} {ma : M D} {mc : M Bool}
theorem f_seq1 (h : m S = .err c pl S') : mSeq m ms S = .err c pl S' := by
  unfold mSeq
  rw [h]
  rfl
theorem f_seq2 (h : (m S).sat fun f S1 => f = .nx ∧ ms S1 = .err c pl S') : mSeq m ms S = .err c pl S' := by
  obtain ⟨f, S1, e, rfl, q⟩ := h
  unfold mSeq
  rw [e]
  exact q
theorem f_ifS (h : (mc S).sat fun k S1 => (k = true → a S1 = .err c pl S') ∧ (k = false → b S1 = .err c pl S')) : mIfS mc a b S = .err c pl S' := by
  obtain ⟨k, S1, e, h1, h2⟩ := h
  unfold mIfS
  rw [e, Rs.bind_ok]
  cases k with
  | true => exact h1 rfl
  | false => exact h2 rfl
theorem f_raise {x : Str} (h : (ma S).sat fun d S1 => d.okE ∧ Rs.err x d S1 = (Rs.err x pl S' : Rs Fl)) : mRaise x ma S = .err x pl S' := by
  obtain ⟨d, S1, e, h1, h2⟩ := h
  unfold mRaise
  rw [e, Rs.bind_ok, if_pos h1]
  exact h2
theorem f_ret (h : ma S = .err c pl S') : mRet ma S = .err c pl S' := by
  unfold mRet
  rw [h]
  rfl
theorem f_fn {fm : FM} {ms : M (List D)} (h : (ms S).sat fun ds S1 => S1 = S' ∧ ∃ A', fm ((ds ++ []).map .fz) = .err c pl A') : mFn fm [] ms S = .err c pl S' := by
  obtain ⟨ds, S1, e, rfl, A', e2⟩ := h
  unfold mFn
  rw [e, Rs.bind_ok, e2]
theorem f_sel0 {i : Nat} {f0 f1 : FM} {ms : M (List D)} (h0 : S[i]? = some (.fz (.int 0))) (h : mFn f0 [] ms S = .err c pl S') : mSel2 i f0 f1 ms S = .err c pl S' := by
  unfold mSel2
  rw [h0]
  exact h
theorem f_sel1 {i : Nat} {f0 f1 : FM} {ms : M (List D)} (h0 : S[i]? = some (.fz (.int 1))) (h : mFn f1 [] ms S = .err c pl S') : mSel2 i f0 f1 ms S = .err c pl S' := by
  unfold mSel2
  rw [h0]
  exact h
theorem f_body {n : Nat} {body : M Fl} {ds : List D} (h : body (ds.map .fz ++ List.replicate (n - ds.length) .no) = .err c pl S') : ∃ A', fnM n [] body (ds.map .fz) = .err c pl A' := by
  refine ⟨S'.take (ds.map SV.fz).length, ?_⟩
  unfold fnM
  rw [List.length_map, h]
  rfl
end
theorem okE_non : D.okE .non := ⟨sm_non.okR (by decide) (by decide), by
  have e : cap = 10000000 := rfl
  have : (D.non).py.shown.length ≤ 1923 * 1 := sm_non.2.2.2
  omega⟩

noncomputable def dec (p : Prop) : Bool := @decide p (Classical.propDecidable p)
theorem dec_true {p : Prop} (h : p) : dec p = true := @decide_eq_true p (Classical.propDecidable p) h
theorem dec_false {p : Prop} (h : ¬ p) : dec p = false := @decide_eq_false p (Classical.propDecidable p) h
theorem dec_iff {p : Prop} : dec p = true ↔ p := ⟨fun h => @of_decide_eq_true p (Classical.propDecidable p) h, dec_true⟩
theorem dec_congr {p q : Prop} (h : p ↔ q) : dec p = dec q := by
  by_cases hp : p
  · rw [dec_true hp, dec_true (h.mp hp)]
  · rw [dec_false hp, dec_false fun hq => hp (h.mpr hq)]
noncomputable def BL (Pt : Nat → Prop) (M : Nat) : List D := (List.range M).map fun i => D.bl (dec (Pt i))
theorem BL_len (Pt : Nat → Prop) (M : Nat) : (BL Pt M).length = M := by simp [BL]
theorem BL_at (Pt : Nat → Prop) {M i : Nat} (hi : i < M) : (BL Pt M)[i]? = some (D.bl (dec (Pt i))) := by simp [BL, List.getElem?_range hi]
theorem BL_congr {Pt Qt : Nat → Prop} {M : Nat} (h : ∀ i, i < M → (Pt i ↔ Qt i)) : BL Pt M = BL Qt M := by
  refine List.map_congr_left fun i hi => ?_
  rw [dec_congr (h i (List.mem_range.mp hi))]
theorem BL_set {Pt : Nat → Prop} {M j : Nat} (hj : j < M) : (BL Pt M).set j (.bl true) = BL (fun i => Pt i ∨ i = j) M := by
  refine List.ext_getElem? fun i => ?_
  rw [List.getElem?_set]
  by_cases hi : i < M
  · rw [BL_at _ hi, BL_at _ hi]
    by_cases c : j = i
    · subst c
      rw [if_pos rfl, if_pos (by rw [BL_len]; exact hi), dec_true (p := Pt j ∨ j = j) (.inr rfl)]
    · rw [if_neg c, dec_congr (p := Pt i) (q := Pt i ∨ i = j) ⟨.inl, fun h => h.resolve_right (Ne.symm c)⟩]
  · rw [List.getElem?_eq_none (l := BL (fun i => Pt i ∨ i = j) M) (by rw [BL_len]; omega), List.getElem?_eq_none (l := BL Pt M) (by rw [BL_len]; omega)]
    by_cases c : j = i
    · omega
    · rw [if_neg c]
theorem BL_start (M : Nat) : (List.replicate M [D.bl false]).flatten = BL (fun _ => False) M := by
  have e : (List.replicate M [D.bl false]).flatten = List.replicate M (D.bl false) := by
    induction M with
    | zero => rfl
    | succ n ih => rw [List.replicate_succ, List.flatten_cons, ih, List.replicate_succ]; rfl
  rw [e]
  symm
  refine List.eq_replicate_iff.mpr ⟨BL_len _ _, fun d hd => ?_⟩
  obtain ⟨i, _, rfl⟩ := List.mem_map.mp hd
  rw [dec_false (p := False) id]
noncomputable def TP (P m : Nat) : List (List Int) := ((List.range (P ^ m)).filter fun i => !dec (PmP P m i)).map fun i : Nat => dgP P ((P : Int) ^ m + i)
noncomputable def enumL (L : List Nat) (Pt : Nat → Prop) : List D := L.map fun i : Nat => D.tup [.int (i : Int), .bl (dec (Pt i))]
theorem ap_pow {P : Nat} {e : Nat} (hP2 : P ≤ 61) (he : e ≤ 100) : Ap f_raised [.int P, .int e] (.int ((P ^ e : Nat) : Int)) := by
  have := ap_raised (x := (P : Int)) (e := e) (k := 6) (by omega) (by omega)
  rwa [← pow_cast] at this
theorem many_bad {P m : Nat} (hP2 : P ≤ 61) (hm : 5000 < P ^ m) (hm2 : m ≤ 40) (ok : (D.int ((P ^ m : Nat) : Int)).okE) : ∃ A', f_prime_polynomials ([.int P, .int m].map .fz) = .err "TooMany" (.int ((P ^ m : Nat) : Int)) A' := by
  refine f_body ?_ (S' := [.fz (.int P), .fz (.int m), .fz (.int ((P ^ m : Nat) : Int)), .no, .no, .no, .no, .no, .no, .no, .no])
  show m_prime_polynomials [.fz (.int P), .fz (.int m), .no, .no, .no, .no, .no, .no, .no, .no, .no] = _
  refine f_seq2 (s_asgN (s_ap (s_cons (s_var rfl (s_cons (s_var rfl (s_nil ⟨_, ap_pow hP2 (by omega), rfl, rfl, ?_⟩)))))))
  refine f_seq1 (f_ifS (s_test (s_bin (s_var rfl (s_C (o_gt ⟨_, rfl, fun _ => f_seq1 (f_raise (s_var rfl ⟨ok, rfl⟩)), fun z => ?_⟩))))))
  have := of_decide_eq_false z
  omega
theorem ap_prime_polynomials {P m : Nat} (hp : ((P : Nat) : Int) ∈ P61) (hm : P ^ m ≤ 5000) (hm2 : m ≤ 40) (h1 : 1 ≤ m) : ApL f_prime_polynomials [.int P, .int m] (ML (TP P m)) := by
  have hc : cap = 10000000 := rfl
  have hpb := P61_le _ hp
  have hP2 : P ≤ 61 := by omega
  refine apL_fn ?_
  show (m_prime_polynomials [.fz (.int P), .fz (.int m), .no, .no, .no, .no, .no, .no, .no, .no, .no]).sat _
  refine s_seq (s_asgN (s_ap (s_cons (s_var rfl (s_cons (s_var rfl (s_nil ⟨_, ap_pow hP2 (by omega), rfl, rfl, ?_⟩)))))))
  refine s_seq (s_ifS (s_test (s_bin (s_var rfl (s_C (o_gt ⟨_, rfl, fun z => ?_, fun z => s_nx ⟨rfl, ?_⟩⟩))))))
  · have := of_decide_eq_true z
    omega
  generalize hM : P ^ m = M at *
  refine s_seq (s_asgL (s_binL (s_fz (s_lst (s_cons (s_C (s_nil ⟨s_var rfl ⟨BL (fun _ => False) M, ?_, rfl, rfl, ?_⟩, Nat.le_of_ble_eq_true rfl⟩)))))))
  · unfold dRep
    simp only
    rw [if_pos ⟨by omega, by omega, by rw [Int.toNat_natCast, List.length_singleton]; omega⟩, Int.toNat_natCast, BL_start]
  let A : Nat → Nat → Prop := fun i x => ∃ low f s, 1 ≤ low ∧ low ≤ i ∧ f < P ^ low ∧ s < P ^ (m - low) ∧ x = prI P m low f s
  let Bq : Nat → Nat → Nat → Prop := fun i j x => A i x ∨ ∃ f s, f < j ∧ s < P ^ (m - (i + 1)) ∧ x = prI P m (i + 1) f s
  let Cq : Nat → Nat → Nat → Nat → Prop := fun i j k x => Bq i j x ∨ ∃ s, s < k ∧ x = prI P m (i + 1) j s
  refine s_seq (s_for (fun ds i S => ∃ x4 x5 x6 x7 x8 : SV, ds = rngD 1 1 (m / 2) ∧ i ≤ m / 2 ∧ S = [.fz (.int P), .fz (.int m), .fz (.int M), .ow (BL (A i) M), x4, x5, x6, x7, x8, .no, .no]) ?_)
  refine s_rng2 (s_cons (s_C (s_cons (s_bin (s_bin (s_var rfl (s_C (o_fdiv ⟨by decide, by decide⟩ (s_C (o_add (s_nil ⟨1, (m : Int) / 2 + 1, rfl, by omega, by omega, ?_⟩)))))))))))
  rw [show ((m : Int) / 2 + 1 - 1).toNat = m / 2 by omega]
  refine ⟨⟨.no, .no, .no, .no, .no, rfl, Nat.zero_le _, ?_⟩, fun i d S hi hP' => ?_, fun S hP' => ⟨rfl, ?_⟩⟩
  · rw [BL_congr (Pt := A 0) (Qt := fun _ => False) fun x _ => ⟨fun ⟨low, f, s, h1, h2, _⟩ => by omega, False.elim⟩]
    rfl
  · obtain ⟨x4, x5, x6, x7, x8, _, hi1, rfl⟩ := hP'
    obtain ⟨hi2, rfl⟩ := rng1_get hi
    have hlow : i + 1 ≤ m := by omega
    refine ⟨_, rfl, s_last (s_for (fun ds j S => ∃ x5 x6 x7 x8 : SV, ds = rngD 0 1 (P ^ (i + 1)) ∧ j ≤ P ^ (i + 1) ∧ S = [.fz (.int P), .fz (.int m), .fz (.int M), .ow (BL (Bq i j) M), .fz (.int ((i + 1 : Nat) : Int)), x5, x6, x7, x8, .no, .no]) ?_)⟩
    have pl : P ^ (i + 1) ≤ M := by rw [← hM]; exact pow_mono (by omega) hlow
    have ph : P ^ (m - (i + 1)) ≤ M := by rw [← hM]; exact pow_mono (by omega) (by omega)
    refine s_rng1 (s_cons (s_ap (s_cons (s_var rfl (s_cons (s_var rfl (s_nil ⟨_, ap_pow hP2 (by omega), s_nil ⟨P ^ (i + 1), rfl, by omega, ⟨x5, x6, x7, x8, rfl, Nat.zero_le _, ?_⟩, fun j d S hj hP' => ?_, fun S hP' => ?_⟩⟩)))))))
    · rw [BL_congr (Pt := Bq i 0) (Qt := A i) fun x _ => ⟨fun h => h.resolve_right fun ⟨f, s, h1, _⟩ => by omega, .inl⟩]
      rfl
    · obtain ⟨x5, x6, x7, x8, _, hj1, rfl⟩ := hP'
      obtain ⟨hj2, rfl⟩ := rng_get hj
      have c1 := pow_cast P (i + 1)
      refine ⟨_, rfl, s_seq (s_asgN (s_ap (s_cons (s_var rfl (s_cons (s_bin (s_ap (s_cons (s_var rfl (s_cons (s_var rfl (s_nil ⟨_, ap_pow hP2 (by omega), s_var rfl (o_add (s_nil ⟨_, ap_dg (by omega) (by omega) (by omega) (by omega), rfl, rfl, ?_⟩))⟩))))))))))))⟩
      rw [c1]
      refine s_last (s_for (fun ds k S => ∃ x7 x8 : SV, ds = rngD 0 1 (P ^ (m - (i + 1))) ∧ k ≤ P ^ (m - (i + 1)) ∧ S = [.fz (.int P), .fz (.int m), .fz (.int M), .ow (BL (Cq i j k) M), .fz (.int ((i + 1 : Nat) : Int)), .fz (.int j), .fz (.tup (IL (dgP P ((P : Int) ^ (i + 1) + j)))), x7, x8, .no, .no]) ?_)
      have hsub : ((m : Nat) : Int) - ((i + 1 : Nat) : Int) = ((m - (i + 1) : Nat) : Int) := by omega
      refine s_rng1 (s_cons (s_ap (s_cons (s_var rfl (s_cons (s_bin (s_var rfl (s_var rfl (o_sub ?_)))))))))
      rw [hsub]
      refine s_nil ⟨_, ap_pow hP2 (by omega), s_nil ⟨P ^ (m - (i + 1)), rfl, by omega, ⟨x7, x8, rfl, Nat.zero_le _, ?_⟩, fun k d S hk hP' => ?_, fun S hP' => ?_⟩⟩
      · rw [BL_congr (Pt := Cq i j 0) (Qt := Bq i j) fun x _ => ⟨fun h => h.resolve_right fun ⟨s, h1, _⟩ => by omega, .inl⟩]
        rfl
      · obtain ⟨x7, x8, _, hk1, rfl⟩ := hP'
        obtain ⟨hk2, rfl⟩ := rng_get hk
        have c2 := pow_cast P (m - (i + 1))
        have c3 := pow_cast P m
        rw [hM] at c3
        obtain ⟨g1, g2, g3, g4⟩ := prI_ok (m := m) hp hlow hj2 hk2
        rw [hM] at g4
        refine ⟨_, rfl, s_seq (s_asgN (s_ap (s_cons (s_var rfl (s_cons (s_bin (s_ap (s_cons (s_var rfl (s_cons (s_bin (s_var rfl (s_var rfl (o_sub ?_))))))))))))))⟩
        rw [hsub]
        refine s_nil ⟨_, ap_pow hP2 (by omega), s_var rfl (o_add (s_nil ⟨_, ap_dg (by omega) (by omega) (by omega) (by omega), rfl, rfl, ?_⟩))⟩
        rw [c2]
        refine s_last (s_setIx (s_C ⟨⟨_, rfl⟩, s_bin (s_ap (s_cons (s_var rfl (s_cons (s_ap (s_cons (s_var rfl (s_cons (s_var rfl (s_cons (s_var rfl (s_nil ⟨_, ap_product (by omega) (g1.1.bd hpb.2) (g2.1.bd hpb.2) (by rw [g1.len]; omega) (by rw [g2.len]; omega), s_nil ⟨_, ap_index (by omega) (by omega) (mulC_dig (by omega) _ _) (by have := mulC_len P (dgP P ((P : Int) ^ (i + 1) + j)) (dgP P ((P : Int) ^ (m - (i + 1)) + k)); rw [g1.len, g2.len] at this; omega), s_var rfl (o_sub ⟨_, _, prI P m (i + 1) j k, rfl, rfl, ?_, ?_⟩)⟩⟩))))))))))))⟩))
        · rw [g3, ← c3, BL_len, show (M : Int) + (prI P m (i + 1) j k : Nat) - (M : Int) = ((prI P m (i + 1) j k : Nat) : Int) by omega]
          exact Lib.ixN_nat g4
        · refine ⟨.fz (.int k), .fz (.tup (IL (dgP P ((P : Int) ^ (m - (i + 1)) + k)))), rfl, hk2, ?_⟩
          rw [BL_set g4]
          rw [BL_congr (Pt := fun x => Cq i j k x ∨ x = prI P m (i + 1) j k) (Qt := Cq i j (k + 1)) fun x _ => ⟨fun h => ?_, fun h => ?_⟩]
          · rfl
          · rcases h with (h | ⟨s, h1, h2⟩) | h
            · exact .inl h
            · exact .inr ⟨s, by omega, h2⟩
            · exact .inr ⟨k, by omega, h⟩
          · rcases h with h | ⟨s, h1, h2⟩
            · exact .inl (.inl h)
            · by_cases e : s = k
              · subst e; exact .inr h2
              · exact .inl (.inr ⟨s, by omega, h2⟩)
      · obtain ⟨x7, x8, _, hk1, rfl⟩ := hP'
        rw [rng_len]
        refine ⟨.fz (.int j), .fz (.tup (IL (dgP P ((P : Int) ^ (i + 1) + j)))), x7, x8, rfl, hj2, ?_⟩
        rw [BL_congr (Pt := Cq i j (P ^ (m - (i + 1)))) (Qt := Bq i (j + 1)) fun x _ => ⟨fun h => ?_, fun h => ?_⟩]
        · rcases h with (h | ⟨f, s, h1, h2, h3⟩) | ⟨s, h1, h2⟩
          · exact .inl h
          · exact .inr ⟨f, s, by omega, h2, h3⟩
          · exact .inr ⟨j, s, by omega, h1, h2⟩
        · rcases h with h | ⟨f, s, h1, h2, h3⟩
          · exact .inl (.inl h)
          · by_cases e : f = j
            · subst e; exact .inr ⟨s, h2, h3⟩
            · exact .inl (.inr ⟨f, s, by omega, h2, h3⟩)
    · obtain ⟨x5, x6, x7, x8, _, hj1, rfl⟩ := hP'
      rw [rng_len]
      refine ⟨.fz (.int ((i + 1 : Nat) : Int)), x5, x6, x7, x8, rfl, hi2, ?_⟩
      rw [BL_congr (Pt := Bq i (P ^ (i + 1))) (Qt := A (i + 1)) fun x _ => ⟨fun h => ?_, fun h => ?_⟩]
      · rcases h with ⟨low, f, s, h1, h2, h3, h4, h5⟩ | ⟨f, s, h1, h2, h3⟩
        · exact ⟨low, f, s, h1, by omega, h3, h4, h5⟩
        · exact ⟨i + 1, f, s, by omega, by omega, h1, h2, h3⟩
      · obtain ⟨low, f, s, h1, h2, h3, h4, h5⟩ := h
        by_cases e : low = i + 1
        · subst e; exact .inr ⟨f, s, h3, h4, h5⟩
        · exact .inl ⟨low, f, s, h1, by omega, h3, h4, h5⟩
  · obtain ⟨x4, x5, x6, x7, x8, _, hi1, rfl⟩ := hP'
    rw [rng1_len]
    have hA : BL (A (m / 2)) M = BL (PmP P m) M := BL_congr fun x _ => Iff.rfl
    rw [hA]
    have c3 := pow_cast P m
    rw [hM] at c3
    refine s_last (s_retL (s_filter (fun d => match d with | .tup [.int i, _] => .tup (IL (dgP P ((P : Int) ^ m + i))) | d => d) (fun d => match d with | .tup [_, .bl b] => !b | _ => false) ?_))
    refine s_enum (s_varO rfl ⟨_, .inl rfl, rfl, by rw [enumD_length, BL_len]; omega, fun d hd => ?_, ?_⟩)
    · obtain ⟨j, hj⟩ := List.getElem?_of_mem hd
      rw [enumD_get] at hj
      obtain ⟨b, hb, rfl⟩ := Option.map_eq_some_iff.mp hj
      have hjM : j < M := by have := (List.getElem?_eq_some_iff.mp hb).1; rwa [BL_len] at this
      obtain ⟨i, _, rfl⟩ := List.mem_map.mp (List.mem_of_getElem? hb)
      refine ⟨_, rfl, s_notT (s_truV rfl ⟨_, rfl, rfl, fun _ => ?_, fun _ => rfl⟩)⟩
      refine s_ap (s_cons (s_var rfl (s_cons (s_bin (s_var rfl (s_var rfl (o_add (s_nil ⟨_, ap_dg (by omega) (by omega) (by omega) (by omega), ?_, rfl⟩))))))))
      rw [c3]
    · have e1 : ∀ (L : List Nat), ((enumL L (PmP P m)).filter (fun d => match d with | .tup [_, .bl b] => !b | _ => false)).map (fun d => match d with | .tup [.int i, _] => .tup (IL (dgP P ((P : Int) ^ m + i))) | d => d) = ML ((L.filter fun i => !dec (PmP P m i)).map fun i : Nat => dgP P ((P : Int) ^ m + i)) := fun L => by
        induction L with
        | nil => rfl
        | cons x r ih =>
          show ((D.tup [.int x, .bl (dec (PmP P m x))] :: enumL r (PmP P m)).filter _).map _ = _
          rw [List.filter_cons, List.filter_cons]
          simp only
          split
          · rw [List.map_cons, ih]
            rfl
          · exact ih
      have e2 : enumD 0 (BL (PmP P m) M) = enumL (List.range M) (PmP P m) := by
        refine List.ext_getElem? fun i => ?_
        rw [enumD_get, enumL, List.getElem?_map]
        by_cases hi : i < M
        · rw [BL_at _ hi, List.getElem?_range hi]
          simp
        · rw [List.getElem?_eq_none (by rw [BL_len]; omega), List.getElem?_eq_none (by rw [List.length_range]; omega)]
          rfl
      rw [e2, e1]
      unfold TP
      rw [hM]
end K05


set_option Elab.async false
set_option linter.all false
set_option maxRecDepth 1000000
set_option maxHeartbeats 0
namespace K05
open PySem PySem.Spec PyProof.Rows L2 Evl Q4 Lib

def cmpF (P m : Nat) : List Nat := (List.range (m / 2)).flatMap fun low => (mnF P (low + 1)).flatMap fun a => (mnF P (m - (low + 1))).map fun b => (Lib.idx P (mulC P a b) - (P : Int) ^ m).toNat
def cntL (l : List Nat) (n : Nat) : Nat := ((List.range n).filter fun i => !l.contains i).length
def pms : List (Nat × Nat) := [(3, 1), (3, 2), (3, 3), (3, 4), (5, 1), (5, 2), (5, 3), (7, 1), (7, 2), (11, 2), (13, 1), (61, 1), (3, 5)]
theorem cnt_all : (pms.all fun x => decide (((cntL (cmpF x.1 x.2) (x.1 ^ x.2) : Nat) : Int) = pcF x.1 x.2)) = true := by decide +kernel
def totF (p : Int) (n : Nat) : Int := (((List.range n).filter fun i : Nat => (n : Int) % ((i : Int) + 1) == 0).map fun i : Nat => ((i : Int) + 1) * pcF p ((i : Int) + 1)).sum
theorem tot_all : (([3, 5, 7, 11, 13, 61] : List Int).all fun p => (List.range 41).all fun n => decide (totF p n = if n = 0 then 0 else p ^ n)) = true := by decide +kernel
end K05


set_option Elab.async false
set_option linter.all false
set_option maxRecDepth 100000
set_option maxHeartbeats 8000000
namespace K05
open PySem PySem.Spec PyProof.Rows L2 Evl Q4 Lib

theorem TP_mem {P m : Nat} (hP : 2 ≤ P) {a : List Int} (h : a ∈ TP P m) : MN P m a := by
  obtain ⟨i, hi, rfl⟩ := List.mem_map.mp h
  have hi := List.mem_range.mp (List.mem_filter.mp hi).1
  exact MN.of (by omega) (by omega) (by rw [← pow_cast]; omega)
theorem TP_len {P m : Nat} : (TP P m).length ≤ P ^ m := by
  unfold TP
  rw [List.length_map]
  exact Nat.le_trans (List.length_filter_le _ _) (by rw [List.length_range]; exact Nat.le_refl _)
theorem due_eq {P m : Nat} (hp : ((P : Nat) : Int) ∈ P61) (h1 : 1 ≤ m) (hm2 : m ≤ 40) : ((mnF P m).filter fun a => !dec (PtP P a)) = TP P m := by
  have hpb := P61_le _ hp
  rw [mn_range (by omega), List.filter_map]
  unfold TP
  congr 1
  refine List.filter_congr fun i hi => ?_
  have hi := List.mem_range.mp hi
  show (!dec (PtP P (dgP P ((P : Int) ^ m + i)))) = _
  rw [dec_congr (parted_iff hp hi h1 hm2)]
theorem cmp_iff {P m i : Nat} (hp : ((P : Nat) : Int) ∈ P61) : PmP P m i ↔ i ∈ cmpF P m := by
  have hpb := P61_le _ hp
  unfold cmpF PmP
  simp only [List.mem_flatMap, List.mem_map, List.mem_range]
  constructor
  · rintro ⟨low, f, s, h1, h2, h3, h4, rfl⟩
    refine ⟨low - 1, by omega, dgP P ((P : Int) ^ low + f), ?_, dgP P ((P : Int) ^ (m - low) + s), ?_, ?_⟩
    · rw [show low - 1 + 1 = low by omega, mn_range (by omega)]
      exact List.mem_map.mpr ⟨f, List.mem_range.mpr h3, rfl⟩
    · rw [show low - 1 + 1 = low by omega, mn_range (by omega)]
      exact List.mem_map.mpr ⟨s, List.mem_range.mpr h4, rfl⟩
    · rfl
  · rintro ⟨low, h1, a, h2, b, h3, rfl⟩
    rw [mn_range (by omega)] at h2 h3
    obtain ⟨f, hf, rfl⟩ := List.mem_map.mp h2
    obtain ⟨s, hs, rfl⟩ := List.mem_map.mp h3
    exact ⟨low + 1, f, s, by omega, by omega, List.mem_range.mp hf, List.mem_range.mp hs, rfl⟩
theorem TP_cnt {P m : Nat} (hp : ((P : Nat) : Int) ∈ P61) : (TP P m).length = cntL (cmpF P m) (P ^ m) := by
  unfold TP cntL
  rw [List.length_map]
  congr 1
  refine List.filter_congr fun i _ => ?_
  congr 1
  by_cases h : i ∈ cmpF P m
  · rw [dec_true ((cmp_iff hp).mpr h), List.contains_iff_mem.mpr h]
  · rw [dec_false fun z => h ((cmp_iff hp).mp z)]
    symm
    simpa using h
theorem cnt_eq {P m : Nat} (h : (P, m) ∈ pms) : ((cntL (cmpF P m) (P ^ m) : Nat) : Int) = pcF P m := by
  have h2 := List.all_eq_true.mp cnt_all (P, m) h
  simp only [decide_eq_true_eq] at h2
  exact h2
theorem pms_ok : ∀ x ∈ pms, ((x.1 : Nat) : Int) ∈ P61 ∧ x.1 ^ x.2 ≤ 243 ∧ 1 ≤ x.2 ∧ x.2 ≤ 5 ∧ ((x.1 : Nat) : Int) ∈ ([3, 5, 7, 11, 13, 61] : List Int) := by decide
theorem pc_small : (([3, 5, 7, 11, 13, 61] : List Int).all fun p => (List.range 41).all fun n => decide ((pcF p n).natAbs ≤ 2 ^ 400)) = true := by decide +kernel
theorem tot_sum (p : Int) (n : Nat) : (((rngD 1 1 n).filter fun d => match d with | .int z => (n : Int) % z == 0 | _ => false).map fun d => match d with | .int z => .int (z * pcF p z) | d => d) = IL (((List.range n).filter fun i : Nat => (n : Int) % ((i : Int) + 1) == 0).map fun i : Nat => ((i : Int) + 1) * pcF p ((i : Int) + 1)) := by
  have e1 : rngD 1 1 n = (List.range n).map fun i : Nat => D.int ((i : Int) + 1) := by
    unfold rngD
    refine List.map_congr_left fun i _ => ?_
    congr 1
    omega
  rw [e1, List.filter_map, List.map_map]
  show _ = (List.map _ _).map D.int
  rw [List.map_map]
  rfl
theorem sm_ml {l : List (List Int)} {k : Nat} (h : ∀ a ∈ l, Bd a ∧ a.length ≤ k) : Sms (l.length * (2 * k + 2)) 1 (ML l) := by
  have := sms_all (w := 2 * k + 1) (k := 1) (ds := ML l) fun d hd => by
    obtain ⟨a, ha, rfl⟩ := List.mem_map.mp hd
    exact (sm_IL (h a ha).1).mono (by have := (h a ha).2; omega) (Nat.le_refl _)
  rw [ML_len] at this
  exact this
theorem okE_int {z : Int} (h : z.natAbs < 18446744073709551616) : (D.int z).okE := ⟨(sm_int64 h).okR (by decide) (by decide), by
  have e : cap = 10000000 := rfl
  have := (sm_int64 h).2.2.2
  omega⟩
theorem ap_told {P m : Nat} (hP2 : P ≤ 61) (hm : 5000 < P ^ m) (hm2 : m ≤ 40) (hs : P ^ m < 1000000) : Ap f_law_told [.int P, .int m] (.int ((P ^ m : Nat) : Int)) := by
  refine ap_fn ?_
  show (m_law_told [.fz (.int P), .fz (.int m), .no]).sat _
  exact s_last (s_caughtP (f_seq1 (f_ret (f_fn (s_cons (s_var rfl (s_cons (s_var rfl (s_nil ⟨rfl, many_bad hP2 hm hm2 (okE_int (by omega))⟩)))))))) (show 2 < 3 by decide) rfl)
def six : List (Nat × Nat) := [(3, 8), (5, 6), (7, 5), (61, 3), (13, 4), (17, 4)]
theorem six_ok : ∀ x ∈ six, x.1 ≤ 61 ∧ 5000 < x.1 ^ x.2 ∧ x.2 ≤ 40 ∧ x.1 ^ x.2 < 1000000 := by decide
def un : D → List Int
  | .tup ds => (ints? ds).getD []
  | _ => []
theorem un_IL (l : List Int) : un (.tup (IL l)) = l := by
  show (ints? (IL l)).getD [] = l
  rw [ints_IL]
  rfl
theorem law_true (ns : List Int) (h : ns.length ≤ 63) : ∃ A, f_law [.fz (.scr ns)] = .ok (.v (.bl true)) A := by
  have hc : cap = 10000000 := rfl
  refine law_of ?_
  show (m_law [.fz (.scr ns), .no, .no, .no, .no, .no, .no, .no, .no, .no, .no, .no, .no]).sat _
  obtain ⟨d0, hd0, hk0⟩ := deck_ok (ns := ns)
  refine s_seq (s_asgL (s_apL (s_cons (s_var rfl (s_nil ⟨d0, hd0, rfl, rfl, ?_⟩)))))
  refine s_seq (s_asg (s_bin (s_fz (s_lst ?_))))
  iterate 13 refine s_cons (s_tup (s_cons (s_C (s_cons (s_C (s_nil ⟨?_, Nat.le_of_ble_eq_true rfl⟩))))))
  refine s_nil ⟨s_draw rfl hk0 (by decide) (s_C ⟨13, rfl, rfl, by decide, by decide, fun v d1 v0 v1 hk1 => o_ix v0 v1 fun x hx => ?_⟩), Nat.le_of_ble_eq_true rfl⟩
  obtain ⟨P, m, rfl, hpm⟩ : ∃ P m : Nat, x = .tup [.int P, .int m] ∧ (P, m) ∈ pms := by
    have e : x ∈ pms.map fun y => D.tup [.int (y.1 : Nat), .int (y.2 : Nat)] := hx
    obtain ⟨y, hy, rfl⟩ := List.mem_map.mp e
    exact ⟨y.1, y.2, rfl, hy⟩
  obtain ⟨hp, hM, h1, h5, hp6⟩ := pms_ok _ hpm
  have hp : ((P : Nat) : Int) ∈ P61 := hp
  have hM : P ^ m ≤ 243 := hM
  have h1 : 1 ≤ m := h1
  have h5 : m ≤ 5 := h5
  have hpb := P61_le _ hp
  have hcnt := cnt_eq hpm
  have hTl := TP_len (P := P) (m := m)
  have hTm : ∀ a ∈ TP P m, Bd a ∧ a.length ≤ 6 := fun a ha => by
    have := TP_mem (by omega) ha
    exact ⟨this.1.bd hpb.2, by rw [this.len]; omega⟩
  have hpcm : pcF P m = ((ML (TP P m)).length : Nat) := by rw [← hcnt, ML_len, TP_cnt hp]
  refine ⟨_, rfl, rfl, ?_⟩
  -- due
  refine s_seq (s_asgL (s_filter (fun d => d) (fun d => !dec (PtP P (un d))) ?_))
  refine s_items (s_ap (s_cons (s_var rfl (s_cons (s_var rfl (s_nil ⟨_, ap_monics (P := P) (m := m) (by omega) (by omega) (by omega) (by omega), _, .inl rfl, rfl, by rw [ML_len, mn_len]; omega, fun d hd => ?_, ?_⟩))))))
  · obtain ⟨a, ha, rfl⟩ := List.mem_map.mp hd
    have hmn := (mem_mn (by omega)).mp ha
    refine ⟨_, rfl, s_notT (s_tru (s_ap (s_cons (s_var rfl (s_cons (s_var rfl (s_nil ⟨_, ap_parted hp hmn (by omega) (by omega) h1, _, rfl, ?_, fun _ => s_var rfl ⟨rfl, rfl⟩, fun _ => rfl⟩)))))))⟩
    show (!dec (PtP P a)) = _
    rw [un_IL]
  have edue : (((ML (mnF P m)).filter fun d => !dec (PtP P (un d))).map fun d => d) = ML (TP P m) := by
    rw [← due_eq hp h1 (by omega)]
    unfold ML
    rw [List.filter_map, List.map_map]
    show List.map _ (List.filter (fun a => !dec (PtP P (un (.tup (IL a))))) _) = _
    simp only [un_IL]
    rfl
  rw [edue]
  refine ⟨rfl, rfl, ?_⟩
  -- told
  have apl := ap_prime_polynomials hp (by omega : P ^ m ≤ 5000) (by omega : m ≤ 40) h1
  refine s_seq (s_asgL (s_apL (s_cons (s_var rfl (s_cons (s_var rfl (s_nil ⟨_, apl, rfl, rfl, ?_⟩)))))))
  have smT := sm_ml hTm
  have sz : (TP P m).length * (2 * 6 + 2) ≤ 243 * 14 := Nat.mul_le_mul (by omega) (by omega)
  have okT : (D.lst (ML (TP P m))).okR := (sm_lst smT).okR (by omega) (by decide)
  have ok2 : (D.lst [.lst (ML (TP P m)), .int (pcF P m)]).okR := (sm_lst (sms_cons (sm_lst smT) (sms_cons (sm_int64 (by rw [hpcm, ML_len]; omega)) sms_nil))).okR (by omega) (by decide)
  have apc := ap_prime_count (p := (P : Int)) (m := (m : Int)) (by omega) (by omega) (by omega) (by omega)
  refine s_seq (s_ifS (s_look (s_notT (s_tru (s_ap (s_cons (s_fz (s_lst (s_cons (s_var rfl (s_cons (s_ap (s_cons (s_var rfl (s_cons (s_var rfl (s_nil ⟨_, apc, s_nil ⟨?_, Nat.le_of_ble_eq_true rfl⟩⟩)))))))))))))))))
  refine s_cons (s_fz (s_lst (s_cons (s_var rfl (s_cons (s_len rfl (o_lenL (s_nil ⟨s_nil ⟨_, ap_law_is_eq ok2 (by rw [hpcm]), true, rfl, rfl, fun z => (Bool.false_ne_true z).elim, fun _ => s_nx ⟨rfl, ?_⟩⟩, Nat.le_of_ble_eq_true rfl⟩))))))))
  refine s_seq (s_app rfl (s_C ⟨_, rfl, by rw [ML_len]; omega, rfl, ?_⟩))
  refine s_seq (s_ifS (s_notT (s_tru (s_ap (s_cons (s_ap (s_cons (s_var rfl (s_cons (s_var rfl (s_nil ⟨_, apl.ap, s_cons (s_varO rfl (s_nil ⟨_, ap_law_is_eq okT rfl, true, rfl, fun z => (Bool.false_ne_true z).elim, fun _ => s_nx ⟨rfl, ?_⟩⟩))⟩)))))))))))
  -- n
  refine s_seq (s_asgN (s_bin (s_C (s_draw rfl hk1 (by decide) (s_C ⟨40, rfl, rfl, by decide, by decide, fun v d2 v0 v1 hk2 => o_add ⟨rfl, rfl, ?_⟩⟩)))))
  obtain ⟨n, hn, hn1, hn40⟩ : ∃ n : Nat, 1 + v = n ∧ 1 ≤ n ∧ n ≤ 40 := ⟨(1 + v).toNat, by omega, by omega, by omega⟩
  rw [hn]
  have htot : totF P n = (P : Int) ^ n := by
    have h := of_decide_eq_true (List.all_eq_true.mp (List.all_eq_true.mp tot_all _ hp6) n (List.mem_range.mpr (by omega)))
    rw [if_neg (by omega)] at h
    exact h
  refine s_seq (s_asgN (s_call (s_cons (s_fz (s_filter (fun d => match d with | .int z => .int (z * pcF P z) | d => d) (fun d => match d with | .int z => (n : Int) % z == 0 | _ => false) ?_)))))
  refine s_rng2 (s_cons (s_C (s_cons (s_bin (s_var rfl (s_C (o_add (s_nil ⟨1, (n : Int) + 1, rfl, by omega, by omega, ?_⟩))))))))
  rw [show ((n : Int) + 1 - 1).toNat = n by omega]
  refine ⟨rfl, by rw [rng1_len]; omega, fun d hd => ?_, ?_⟩
  · obtain ⟨k, hk, rfl⟩ := mem_rng1 hd
    have hsm : (pcF P ((k + 1 : Nat) : Int)).natAbs ≤ 2 ^ 400 := of_decide_eq_true (List.all_eq_true.mp (List.all_eq_true.mp pc_small _ hp6) (k + 1) (List.mem_range.mpr (by omega)))
    refine ⟨_, rfl, s_test (s_bin (s_bin (s_call (s_cons (s_var rfl (s_nil (o_int1 (s_var rfl (o_mod (by omega) (s_C (o_eq ⟨_, rfl, rfl, fun _ => ?_, fun _ => rfl⟩)))))))))))⟩
    refine s_bin (s_var rfl (s_ap (s_cons (s_var rfl (s_cons (s_var rfl (s_nil ⟨_, ap_prime_count (p := (P : Int)) (m := ((k + 1 : Nat) : Int)) (by omega) (by omega) (by omega) (by omega), o_mulB (k := 62) (by omega) hsm (by omega) ⟨rfl, rfl⟩⟩)))))))
  rw [tot_sum]
  refine s_nil (o_sum ⟨rfl, rfl, ?_⟩)
  have et : (((List.range n).filter fun i : Nat => (n : Int) % ((i : Int) + 1) == 0).map fun i : Nat => ((i : Int) + 1) * pcF P ((i : Int) + 1)).sum = (P : Int) ^ n := htot
  rw [et]
  -- power
  refine s_seq (s_asgN (s_C ⟨rfl, rfl, ?_⟩))
  refine s_seq (s_for (fun ds i S => ∃ x9 : SV, ds = rngD 0 1 n ∧ i ≤ n ∧ S = [.fz (.scr ns), .ow d2, .fz (.int P), .fz (.int m), .fz (.lst (ML (TP P m))), .ow (ML (TP P m) ++ [.str "spoilt"]), .fz (.int n), .fz (.int ((P : Int) ^ n)), .fz (.int ((P : Int) ^ i)), x9, .no, .no, .no]) ?_)
  refine s_rng1 (s_cons (s_var rfl (s_nil ⟨n, rfl, by omega, ⟨.no, rfl, Nat.zero_le _, by rw [Int.pow_zero]; rfl⟩, fun i d S hi hP => ?_, fun S hP => ⟨rfl, ?_⟩⟩)))
  · obtain ⟨x9, _, hi1, rfl⟩ := hP
    obtain ⟨hi2, rfl⟩ := rng_get hi
    refine ⟨_, rfl, s_last (s_asgN (s_bin (s_var rfl (s_var rfl (o_mulB (nat_pow (k := 6) (by omega) i) (l := 6) (by omega) (by omega) ⟨rfl, .fz (.int i), rfl, hi2, ?_⟩)))))⟩
    rw [← Int.pow_succ]
    rfl
  obtain ⟨x9, _, hi1, rfl⟩ := hP
  rw [rng_len]
  -- too many
  refine s_seq (s_asg (s_bin (s_fz (s_lst ?_))))
  iterate 6 refine s_cons (s_tup (s_cons (s_C (s_cons (s_C (s_cons (s_C (s_nil ⟨?_, Nat.le_of_ble_eq_true rfl⟩))))))))
  refine s_nil ⟨s_draw rfl hk2 (by decide) (s_C ⟨6, rfl, rfl, by decide, by decide, fun v d3 v0 v1 hk3 => o_ix v0 v1 fun x hx => ?_⟩), Nat.le_of_ble_eq_true rfl⟩
  obtain ⟨Q, k, rfl, hqk⟩ : ∃ Q k : Nat, x = .tup [.int Q, .int k, .int ((Q ^ k : Nat) : Int)] ∧ (Q, k) ∈ six := by
    have e : x ∈ six.map fun y => D.tup [.int (y.1 : Nat), .int (y.2 : Nat), .int ((y.1 ^ y.2 : Nat) : Int)] := hx
    obtain ⟨y, hy, rfl⟩ := List.mem_map.mp e
    exact ⟨y.1, y.2, rfl, hy⟩
  obtain ⟨q1, q2, q3, q4⟩ := six_ok _ hqk
  refine ⟨_, rfl, rfl, ?_⟩
  refine s_last (s_ret (s_andV (s_bin (s_var rfl (s_var rfl (o_eq ⟨_, rfl, fun _ => ?_, fun z => ?_⟩))))))
  · exact s_ap (s_cons (s_ap (s_cons (s_var rfl (s_cons (s_var rfl (s_nil ⟨_, ap_told (P := Q) (m := k) q1 q2 q3 q4, s_cons (s_var rfl (s_nil ⟨_, ap_law_is_eq ((sm_int64 (by have : Q ^ k < 1000000 := q4; omega)).okR (by decide) (by decide)) rfl, rfl⟩))⟩)))))))
  · simp at z
end K05


open PySem PySem.W PyProof.Rows
set_option maxHeartbeats 0 in
theorem PySem.Challenge.cw_poleheaps_k05_prime_polynomials_holds : PySem.Challenge.rw_poleheaps_k05_prime_polynomials.Holds := by
  w_on; o_law; k_head; (case hw => w_witness2)
  k_fill
  refine Q4.walk_g (l := PySem.Challenge.rw_poleheaps_k05_prime_polynomials) (n := 63) (k := 6) (x := "script") (fm := K05.f_law) rfl (by decide) rfl ⟨rfl, by decide, by decide⟩ (fun w h Y => PySem.W.kIn_of Y) ?F (fun ns hl => K05.law_true ns hl)
  case F =>
    intro w mg fa h KX G hmg
    refine' K05.all_mk KX G hmg ?a0 ?l0 ?p0 ?k0 ?a1 ?l1 ?p1 ?k1 ?a2 ?l2 ?p2 ?k2 ?a3 ?l3 ?p3 ?k3 ?a4 ?l4 ?p4 ?k4 ?a5 ?l5 ?p5 ?k5 ?a6 ?l6 ?p6 ?k6 ?a7 ?l7 ?p7 ?k7 ?a8 ?l8 ?p8 ?k8 ?a9 ?l9 ?p9 ?k9 ?a10 ?l10 ?p10 ?k10 ?a11 ?l11 ?p11 ?k11 ?a12 ?l12 ?p12 ?k12 ?a13 ?l13 ?p13 ?k13 ?a14 ?l14 ?p14 ?k14 ?a15 ?l15 ?p15 ?k15 ?a16 ?l16 ?p16 ?k16 ?a17 ?l17 ?p17 ?k17 ?a18 ?l18 ?p18 ?k18 ?a19 ?l19 ?p19 ?k19 ?z_list ?z_int ?z_tuple ?z_enumerate ?z_len ?z_range ?z_abs ?z_repr ?z_max ?z_any ?z_sorted ?z_sum ?g_LISTED_MOST ?aH (Q4.heapG_of (P := PySem.Challenge.rw_poleheaps_k05_prime_polynomials.prog) (w := w) (mg := mg) ?qhl ?qhi ?qhlk ?qhcd ?qhtg ?qhfg ?qhlcd ?qhlc ?qhlT ?qhho (mg_none_of KX G ?qhzs) (mg_none_of KX G ?qhzr) ?qhS ?qhgr ?qhar ?qhself ?qhvs ?qhfile ?qhtop ?qhoT ?qhb ?qhe) (Q4.errG_off (P := PySem.Challenge.rw_poleheaps_k05_prime_polynomials.prog) (w := w) (mg := mg) (mg_of KX G ?qx0a) ?qx0l ?qx0i ?qx0lk ?qx0cd ?qx0tg ?qx0lcd ?qx0lc ?qx0lT ?qx0f1 ?qx0f2 ?qx0f3 ?qx0f4 ?qx0f5 ?qx0f6 ?qx0f7 ?qx0f8 ?qx0f9 ?qx0ne ?qx0S ?qx0har ?qx0self ?qx0x ?qx0vs ?qx0file ?qx0oT ?qx0b2 ?qx0b1 ?qx0e) (Q4.catG_of (mg_of KX G ?qy0a) ?qy0l ?qy0g ?qy0h ?qy0b ?qy0t ?qy0s ?qy0p)
    (case a0 => k_is)
    (case l0 => k_is)
    (case p0 => k_is)
    (case k0 => k_is)
    (case a1 => k_is)
    (case l1 => k_is)
    (case p1 => k_is)
    (case k1 => k_is)
    (case a2 => k_is)
    (case l2 => k_is)
    (case p2 => k_is)
    (case k2 => k_is)
    (case a3 => k_is)
    (case l3 => k_is)
    (case p3 => k_is)
    (case k3 => k_is)
    (case a4 => k_is)
    (case l4 => k_is)
    (case p4 => k_is)
    (case k4 => k_is)
    (case a5 => k_is)
    (case l5 => k_is)
    (case p5 => k_is)
    (case k5 => k_is)
    (case a6 => k_is)
    (case l6 => k_is)
    (case p6 => k_is)
    (case k6 => k_is)
    (case a7 => k_is)
    (case l7 => k_is)
    (case p7 => k_is)
    (case k7 => k_is)
    (case a8 => k_is)
    (case l8 => k_is)
    (case p8 => k_is)
    (case k8 => k_is)
    (case a9 => k_is)
    (case l9 => k_is)
    (case p9 => k_is)
    (case k9 => k_is)
    (case a10 => k_is)
    (case l10 => k_is)
    (case p10 => k_is)
    (case k10 => k_is)
    (case a11 => k_is)
    (case l11 => k_is)
    (case p11 => k_is)
    (case k11 => k_is)
    (case a12 => k_is)
    (case l12 => k_is)
    (case p12 => k_is)
    (case k12 => k_is)
    (case a13 => k_is)
    (case l13 => k_is)
    (case p13 => k_is)
    (case k13 => k_is)
    (case a14 => k_is)
    (case l14 => k_is)
    (case p14 => k_is)
    (case k14 => k_is)
    (case a15 => k_is)
    (case l15 => k_is)
    (case p15 => k_is)
    (case k15 => k_is)
    (case a16 => k_is)
    (case l16 => k_is)
    (case p16 => k_is)
    (case k16 => k_is)
    (case a17 => k_is)
    (case l17 => k_is)
    (case p17 => k_is)
    (case k17 => k_is)
    (case a18 => k_is)
    (case l18 => k_is)
    (case p18 => k_is)
    (case k18 => k_is)
    (case a19 => k_is)
    (case l19 => k_is)
    (case p19 => k_is)
    (case k19 => k_is)
    (case z_list => k_is)
    (case z_int => k_is)
    (case z_tuple => k_is)
    (case z_enumerate => k_is)
    (case z_len => k_is)
    (case z_range => k_is)
    (case z_abs => k_is)
    (case z_repr => k_is)
    (case z_max => k_is)
    (case z_any => k_is)
    (case z_sorted => k_is)
    (case z_sum => k_is)
    (case g_LISTED_MOST => k_is)
    (case aH => k_is)
    (case qhl => k_is)
    (case qhi => k_is)
    (case qhlk => k_is)
    (case qhcd => k_is)
    (case qhtg => k_is)
    (case qhfg => k_is)
    (case qhlcd => k_is)
    (case qhlc => k_is)
    (case qhlT => k_is)
    (case qhho => k_is)
    (case qhzs => k_is)
    (case qhzr => k_is)
    (case qhS => exact ⟨rfl, rfl, rfl, by decide +kernel, by decide +kernel, by decide +kernel, by decide +kernel, rfl, rfl⟩)
    (case qhgr => rfl)
    (case qhar => rfl)
    (case qhself => rfl)
    (case qhvs => rfl)
    (case qhoT => rfl)
    (case qhfile => decide +kernel)
    (case qhtop => decide +kernel)
    (case qhb => exact fun us hl => match us, hl with | [_, _, _], _ => ⟨_, rfl, rfl⟩)
    (case qhe => exact fun _ => rfl)
    (case qx0a => k_is)
    (case qx0l => k_is)
    (case qx0i => k_is)
    (case qx0lk => k_is)
    (case qx0cd => k_is)
    (case qx0tg => k_is)
    (case qx0lcd => k_is)
    (case qx0lc => k_is)
    (case qx0lT => k_is)
    (case qx0f1 => k_is)
    (case qx0f2 => k_is)
    (case qx0f3 => k_is)
    (case qx0f4 => k_is)
    (case qx0f5 => k_is)
    (case qx0f6 => k_is)
    (case qx0f7 => k_is)
    (case qx0f8 => k_is)
    (case qx0f9 => k_is)
    (case qx0ne => decide)
    (case qx0S => exact ⟨rfl, rfl, rfl, by decide +kernel, by decide +kernel, by decide +kernel, by decide +kernel, rfl, rfl⟩)
    (case qx0har => rfl)
    (case qx0self => rfl)
    (case qx0vs => rfl)
    (case qx0oT => rfl)
    (case qx0x => decide)
    (case qx0file => decide +kernel)
    (case qx0b2 => exact fun us hl => match us, hl with | [_, _], _ => ⟨_, rfl, rfl⟩)
    (case qx0b1 => exact fun us hl => match us, hl with | [_], _ => ⟨_, rfl, rfl⟩)
    (case qx0e => exact fun _ => rfl)
    (case qy0a => k_is)
    (case qy0l => k_is)
    (case qy0g => k_is)
    (case qy0h => k_is)
    (case qy0b => k_is)
    (case qy0t => k_is)
    (case qy0s => k_is)
    (case qy0p => k_is)

