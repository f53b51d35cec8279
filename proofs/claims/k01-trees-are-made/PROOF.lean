import PyProof.Rows.All
import Wide.All
import OpenK.AllK
import Wide.FinOn
import HandS.ForMost
import HandS.ForExc
import HandS.Flow
import HandS.TupAny
import HandS.Property
import HandS.FStr
import HandS.IsInst
import HandS.MakeKw
import HandS.HeadEnd
import HandS.RaiseMore
import KE.KFmtOwn
import PyProof.ReprRoads
import KE.KDictList
import HandS.Ends
import KE.KIsAll
import PyProof.StrLawsRepr
import PyProof.StrLaws
import PySem.Challenge.RW_pilewalks_k01_trees_are_made
set_option Elab.async false
set_option linter.all false
set_option maxRecDepth 100000
set_option maxHeartbeats 4000000
namespace DL
open PySem L2

inductive D where
  | v (x : V)
  | lst (xs : List D)
  | kst (xs : List D)
  | tup (xs : List D)
  | dic (ks : List Key) (vs : List D)
  | obj (c : Nat) (ns : List Str) (vs : List D)
  | stk
abbrev D.int (i : Int) : D := .v (.int i)
abbrev D.str (x : Str) : D := .v (.str x)
abbrev D.bl (b : Bool) : D := .v (.bl b)
abbrev D.non : D := .v .non

structure DC where
  K : PySem.W.Frag
  cl : Nat → Addr
  P0 : Hp
  H0 : Hp
  io : List Addr

def stkO (a : Addr) : HO := .ext fun h => ∃ (x y c : Int) (t u r : Tok) (n : Nat), h.get? a = some { cls := .type "list", data := .seq #[.int x t, .int y u, .int c r] n } ∧ 0 ≤ x ∧ 0 ≤ y ∧ y < 2147483648 ∧ 0 ≤ c

mutual
def Is (K : PySem.W.Frag) (cl : Nat → Addr) (P : Hp) : D → V → Prop
  | .v x, y => y = x
  | .lst ds, y => ∃ a xs, y = .ref a ∧ P a = some (.lst xs) ∧ IsA K cl P ds xs
  | .kst ds, y => ∃ a xs, y = .ref a ∧ SqL K P a xs ∧ IsA K cl P ds xs
  | .tup ds, y => ∃ a xs, y = .ref a ∧ SqT K P a xs ∧ IsA K cl P ds xs
  | .dic ks ds, y => ∃ a kvs, y = .ref a ∧ P a = some (.dK kvs) ∧ kvs.map (·.1) = ks ∧ IsA K cl P ds (kvs.map (·.2))
  | .obj c ns ds, y => ∃ a dx fs, y = .ref a ∧ P a = some (.ins (cl c) dx fs) ∧ fs.map (·.1) = ns ∧ IsA K cl P ds (fs.map (·.2))
  | .stk, y => ∃ a, y = .ref a ∧ P a = some (stkO a)
def IsA (K : PySem.W.Frag) (cl : Nat → Addr) (P : Hp) : List D → List V → Prop
  | [], xs => xs = []
  | d :: ds, xs => ∃ x r, xs = x :: r ∧ Is K cl P d x ∧ IsA K cl P ds r
end

section
variable {K : PySem.W.Frag} {cl : Nat → Addr} {P P' H : Hp}
theorem sqT_mono {a : Addr} {xs : List V} (e : Same P P') (h : SqT K P a xs) : SqT K P' a xs := by
  rcases h with (h | ⟨o, h⟩) | h
  · exact .inl (.inl (e _ _ h))
  · exact .inl (.inr ⟨o, e _ _ h⟩)
  · exact .inr h
mutual
theorem Is.mono (e : Same P P') : ∀ {d : D} {y : V}, Is K cl P d y → Is K cl P' d y
  | .v x, y, h => by unfold Is at h ⊢; exact h
  | .lst ds, y, h => by
    unfold Is at h ⊢
    obtain ⟨a, xs, h1, h2, h3⟩ := h
    exact ⟨a, xs, h1, e _ _ h2, IsA.mono e h3⟩
  | .kst ds, y, h => by
    unfold Is at h ⊢
    obtain ⟨a, xs, h1, h2, h3⟩ := h
    exact ⟨a, xs, h1, e.seq h2, IsA.mono e h3⟩
  | .tup ds, y, h => by
    unfold Is at h ⊢
    obtain ⟨a, xs, h1, h2, h3⟩ := h
    exact ⟨a, xs, h1, sqT_mono e h2, IsA.mono e h3⟩
  | .dic ks ds, y, h => by
    unfold Is at h ⊢
    obtain ⟨a, xs, h1, h2, h3, h4⟩ := h
    exact ⟨a, xs, h1, e _ _ h2, h3, IsA.mono e h4⟩
  | .obj c ns ds, y, h => by
    unfold Is at h ⊢
    obtain ⟨a, dx, fs, h1, h2, h3, h4⟩ := h
    exact ⟨a, dx, fs, h1, e _ _ h2, h3, IsA.mono e h4⟩
  | .stk, y, h => by
    unfold Is at h ⊢
    obtain ⟨a, h1, h2⟩ := h
    exact ⟨a, h1, e _ _ h2⟩
theorem IsA.mono (e : Same P P') : ∀ {ds : List D} {ys : List V}, IsA K cl P ds ys → IsA K cl P' ds ys
  | [], ys, h => by unfold IsA at h ⊢; exact h
  | d :: ds, ys, h => by
    unfold IsA at h ⊢
    obtain ⟨x, r, h1, h2, h3⟩ := h
    exact ⟨x, r, h1, Is.mono e h2, IsA.mono e h3⟩
end
theorem IsA.nil : IsA K cl P [] [] := by unfold IsA; rfl
theorem IsA.cons {d : D} {ds : List D} {x : V} {xs : List V} (h : Is K cl P d x) (t : IsA K cl P ds xs) : IsA K cl P (d :: ds) (x :: xs) := by
  unfold IsA; exact ⟨x, xs, rfl, h, t⟩
theorem IsA.nil_inv {xs : List V} (h : IsA K cl P [] xs) : xs = [] := by unfold IsA at h; exact h
theorem IsA.cons_inv {d : D} {ds : List D} {xs : List V} (h : IsA K cl P (d :: ds) xs) : ∃ x r, xs = x :: r ∧ Is K cl P d x ∧ IsA K cl P ds r := by unfold IsA at h; exact h
theorem IsA.length : ∀ {ds : List D} {xs : List V}, IsA K cl P ds xs → xs.length = ds.length
  | [], xs, h => by rw [h.nil_inv]; rfl
  | d :: ds, xs, h => by
    obtain ⟨x, r, rfl, _, t⟩ := h.cons_inv
    simp [IsA.length t]
theorem IsA.get : ∀ {ds : List D} {xs : List V} {i : Nat} {d : D}, IsA K cl P ds xs → ds[i]? = some d → ∃ x, xs[i]? = some x ∧ Is K cl P d x
  | [], _, _, _, _, e => by simp at e
  | d :: ds, xs, i, d', h, e => by
    obtain ⟨x, r, rfl, h1, t⟩ := h.cons_inv
    cases i with
    | zero => simp at e; subst e; exact ⟨x, rfl, h1⟩
    | succ i => 
      obtain ⟨x', h2, h3⟩ := IsA.get (i := i) t (by simpa using e)
      exact ⟨x', by simpa using h2, h3⟩
theorem IsA.get' {ds : List D} {xs : List V} {i : Nat} {x : V} (h : IsA K cl P ds xs) (e : xs[i]? = some x) : ∃ d, ds[i]? = some d ∧ Is K cl P d x := by
  have hl := h.length
  have hi : i < ds.length := by
    have := (List.getElem?_eq_some_iff.mp e).1
    omega
  obtain ⟨x', h1, h2⟩ := h.get (List.getElem?_eq_getElem hi)
  rw [e] at h1; cases h1
  exact ⟨_, List.getElem?_eq_getElem hi, h2⟩
theorem IsA.append : ∀ {ds es : List D} {xs ys : List V}, IsA K cl P ds xs → IsA K cl P es ys → IsA K cl P (ds ++ es) (xs ++ ys)
  | [], es, xs, ys, h, t => by rw [h.nil_inv]; exact t
  | d :: ds, es, xs, ys, h, t => by
    obtain ⟨x, r, rfl, h1, h2⟩ := h.cons_inv
    exact .cons h1 (h2.append t)
theorem IsA.take : ∀ {ds : List D} {xs : List V} (n : Nat), IsA K cl P ds xs → IsA K cl P (ds.take n) (xs.take n)
  | _, _, 0, _ => .nil
  | [], xs, n + 1, h => by rw [h.nil_inv]; exact .nil
  | d :: ds, xs, n + 1, h => by
    obtain ⟨x, r, rfl, h1, h2⟩ := h.cons_inv
    exact .cons h1 (h2.take n)
theorem IsA.drop : ∀ {ds : List D} {xs : List V} (n : Nat), IsA K cl P ds xs → IsA K cl P (ds.drop n) (xs.drop n)
  | _, _, 0, h => h
  | [], xs, n + 1, h => by rw [h.nil_inv]; exact .nil
  | d :: ds, xs, n + 1, h => by
    obtain ⟨x, r, rfl, h1, h2⟩ := h.cons_inv
    exact h2.drop n
theorem IsA.set : ∀ {ds : List D} {xs : List V} {d : D} {x : V} (i : Nat), Is K cl P d x → IsA K cl P ds xs → IsA K cl P (ds.set i d) (xs.set i x)
  | [], xs, _, _, i, _, h => by rw [h.nil_inv]; exact .nil
  | e :: ds, xs, d, x, 0, hd, h => by
    obtain ⟨x, r, rfl, h1, h2⟩ := h.cons_inv
    exact .cons hd h2
  | e :: ds, xs, d, x, i + 1, hd, h => by
    obtain ⟨x, r, rfl, h1, h2⟩ := h.cons_inv
    exact .cons h1 (h2.set i hd)
theorem IsA.atoms : ∀ {zs : List V} {xs : List V}, IsA K cl P (zs.map D.v) xs → xs = zs
  | [], xs, h => h.nil_inv
  | z :: zs, xs, h => by
    obtain ⟨x, r, rfl, h1, h2⟩ := h.cons_inv
    unfold Is at h1
    rw [h1, IsA.atoms h2]
theorem IsA.of_atoms : ∀ zs : List V, IsA K cl P (zs.map D.v) zs
  | [] => .nil
  | z :: zs => .cons (by unfold Is; rfl) (IsA.of_atoms zs)
theorem Is.v {x : V} : Is K cl P (.v x) x := by unfold Is; rfl
theorem Is.v_inv {x y : V} (h : Is K cl P (.v x) y) : y = x := by unfold Is at h; exact h
theorem Is.kst_inv {ds : List D} {y : V} (h : Is K cl P (.kst ds) y) : ∃ a xs, y = .ref a ∧ SqL K P a xs ∧ IsA K cl P ds xs := by unfold Is at h; exact h
theorem Is.lst_inv {ds : List D} {y : V} (h : Is K cl P (.lst ds) y) : ∃ a xs, y = .ref a ∧ P a = some (.lst xs) ∧ IsA K cl P ds xs := by unfold Is at h; exact h
theorem Is.tup_inv {ds : List D} {y : V} (h : Is K cl P (.tup ds) y) : ∃ a xs, y = .ref a ∧ SqT K P a xs ∧ IsA K cl P ds xs := by unfold Is at h; exact h
theorem Is.dic_inv {ks : List Key} {ds : List D} {y : V} (h : Is K cl P (.dic ks ds) y) : ∃ a kvs, y = .ref a ∧ P a = some (.dK kvs) ∧ kvs.map (·.1) = ks ∧ IsA K cl P ds (kvs.map (·.2)) := by unfold Is at h; exact h
theorem Is.obj_inv {c : Nat} {ns : List Str} {ds : List D} {y : V} (h : Is K cl P (.obj c ns ds) y) : ∃ a dx fs, y = .ref a ∧ P a = some (.ins (cl c) dx fs) ∧ fs.map (·.1) = ns ∧ IsA K cl P ds (fs.map (·.2)) := by unfold Is at h; exact h
theorem Is.stk_inv {y : V} (h : Is K cl P .stk y) : ∃ a, y = .ref a ∧ P a = some (stkO a) := by unfold Is at h; exact h
theorem Is.kst {ds : List D} {a : Addr} {xs : List V} (h : SqL K P a xs) (t : IsA K cl P ds xs) : Is K cl P (.kst ds) (.ref a) := by unfold Is; exact ⟨a, xs, rfl, h, t⟩
theorem Is.lst {ds : List D} {a : Addr} {xs : List V} (h : P a = some (.lst xs)) (t : IsA K cl P ds xs) : Is K cl P (.lst ds) (.ref a) := by unfold Is; exact ⟨a, xs, rfl, h, t⟩
theorem Is.tup {ds : List D} {a : Addr} {xs : List V} (h : SqT K P a xs) (t : IsA K cl P ds xs) : Is K cl P (.tup ds) (.ref a) := by unfold Is; exact ⟨a, xs, rfl, h, t⟩
theorem Is.dic {ks : List Key} {ds : List D} {a : Addr} {kvs : List (Key × V)} (h : P a = some (.dK kvs)) (k : kvs.map (·.1) = ks) (t : IsA K cl P ds (kvs.map (·.2))) : Is K cl P (.dic ks ds) (.ref a) := by unfold Is; exact ⟨a, kvs, rfl, h, k, t⟩
theorem Is.obj {c : Nat} {ns : List Str} {ds : List D} {a dx : Addr} {fs : List (Str × V)} (h : P a = some (.ins (cl c) dx fs)) (k : fs.map (·.1) = ns) (t : IsA K cl P ds (fs.map (·.2))) : Is K cl P (.obj c ns ds) (.ref a) := by unfold Is; exact ⟨a, dx, fs, rfl, h, k, t⟩
theorem Is.ref_of {d : D} {y : V} (h : Is K cl P d y) (n : ∀ x, d ≠ .v x) : ∃ a, y = .ref a := by
  cases d with
  | v x => exact absurd rfl (n x)
  | lst ds => obtain ⟨a, _, e, _⟩ := h.lst_inv; exact ⟨a, e⟩
  | kst ds => obtain ⟨a, _, e, _⟩ := h.kst_inv; exact ⟨a, e⟩
  | tup ds => obtain ⟨a, _, e, _⟩ := h.tup_inv; exact ⟨a, e⟩
  | dic ks ds => obtain ⟨a, _, e, _⟩ := h.dic_inv; exact ⟨a, e⟩
  | obj c ns ds => obtain ⟨a, _, _, e, _⟩ := h.obj_inv; exact ⟨a, e⟩
  | stk => obtain ⟨a, e, _⟩ := h.stk_inv; exact ⟨a, e⟩
end

inductive Sl where
  | no
  | d (x : D)
  | m (xs : List D)
  | md (ks : List Key) (vs : List D)
  | mo (a dx : Addr) (c : Nat) (ns : List Str) (vs : List D)
def Sl.own : Sl → Bool
  | .m _ => true
  | .md _ _ => true
  | .mo _ _ _ _ _ => true
  | _ => false
def SlAt (K : PySem.W.Frag) (cl : Nat → Addr) (P H : Hp) : Sl → Option V → Prop
  | .no, _ => True
  | .d x, o => ∃ v, o = some v ∧ Is K cl P x v
  | .m ds, o => ∃ a xs, o = some (.ref a) ∧ P a = none ∧ H a = some (.lst xs) ∧ IsA K cl P ds xs
  | .md ks ds, o => ∃ a kvs, o = some (.ref a) ∧ P a = none ∧ H a = some (.dK kvs) ∧ kvs.map (·.1) = ks ∧ IsA K cl P ds (kvs.map (·.2))
  | .mo a dx c ns ds, o => ∃ fs, o = some (.ref a) ∧ P a = none ∧ H a = some (.ins (cl c) dx fs) ∧ fs.map (·.1) = ns ∧ IsA K cl P ds (fs.map (·.2))

def Own (σ : L2.St) (Γ : List Sl) (a : Addr) : Prop := ∃ (i : Nat) (s : Sl), Γ[i]? = some s ∧ s.own = true ∧ σ[i]? = some (some (.ref a))

structure Rep (E : DC) (P H : Hp) (σ : L2.St) (Γ : List Sl) : Prop where
  sub : Same P H
  p0 : Same E.P0 P
  h0 : ∀ a o, E.H0 a = some o → a ∉ E.io → H a = some o
  dm : ∀ a o, E.H0 a = some o → ∃ o', H a = some o'
  new : ∀ a o, P a = some o → (∃ o', E.P0 a = some o') ∨ E.H0 a = none
  len : σ.length = Γ.length
  sl : ∀ (i : Nat) s o, Γ[i]? = some s → σ[i]? = some o → SlAt E.K E.cl P H s o
  dj : ∀ (i j : Nat) a si sj, i ≠ j → Γ[i]? = some si → si.own = true → σ[i]? = some (some (.ref a)) → Γ[j]? = some sj → sj.own = true → σ[j]? = some (some (.ref a)) → False
  ow : ∀ a, Own σ Γ a → E.H0 a = none ∨ a ∈ E.io

structure Gr (σ : L2.St) (Γ : List Sl) (P H : Hp) (Γ' : List Sl) (P' H' : Hp) : Prop where
  p : Same P P'
  n : ∀ a o, P' a = some o → (∃ o', P a = some o') ∨ H a = none ∨ (Own σ Γ a ∧ ¬ Own σ Γ' a)
  k : ∀ a o, H a = some o → ¬ Own σ Γ a → H' a = some o
  dm : ∀ a o, H a = some o → ∃ o', H' a = some o'
  o : ∀ a, Own σ Γ' a → Own σ Γ a

theorem Gr.refl {σ : L2.St} {Γ : List Sl} {P H : Hp} : Gr σ Γ P H Γ P H :=
  ⟨Same.refl _, fun a o h => .inl ⟨o, h⟩, fun _ _ h _ => h, fun _ o h => ⟨o, h⟩, fun _ h => h⟩
theorem none_of_dm {H H' : Hp} (dm : ∀ a o, H a = some o → ∃ o', H' a = some o') {a : Addr} (h : H' a = none) : H a = none := by
  cases q : H a with
  | none => rfl
  | some o =>
    obtain ⟨o', e⟩ := dm a o q
    rw [h] at e; cases e
theorem Gr.trans {σ : L2.St} {Γ Γ1 Γ2 : List Sl} {P P1 P2 H H1 H2 : Hp} (a : Gr σ Γ P H Γ1 P1 H1) (b : Gr σ Γ1 P1 H1 Γ2 P2 H2) : Gr σ Γ P H Γ2 P2 H2 where
  p := a.p.trans b.p
  n := fun x o h => by
    rcases b.n x o h with ⟨o', h1⟩ | h1 | ⟨h1, h2⟩
    · rcases a.n x o' h1 with h3 | h3 | ⟨h3, h4⟩
      · exact .inl h3
      · exact .inr (.inl h3)
      · exact .inr (.inr ⟨h3, fun z => h4 (b.o x z)⟩)
    · exact .inr (.inl (none_of_dm a.dm h1))
    · exact .inr (.inr ⟨a.o x h1, h2⟩)
  k := fun x o h n => b.k x o (a.k x o h n) fun z => n (a.o x z)
  dm := fun x o h => by
    obtain ⟨o', h'⟩ := a.dm x o h
    exact b.dm x o' h'
  o := fun x h => a.o x (b.o x h)

structure XD where
  c : Nat
  ns : List Str
  ds : List D
def XIs (K : PySem.W.Frag) (cl : Nat → Addr) (P H : Hp) (x : XD) (cls : Value) (d : Option Addr) : Prop :=
  cls = .ref (cl x.c) ∧ ((x.ns = [] ∧ x.ds = []) ∨ ∃ dd fs, d = some dd ∧ H dd = some (.xd fs) ∧ fs.map (·.1) = x.ns ∧ IsA K cl P x.ds (fs.map (·.2)))

abbrev DS := List Sl
abbrev XC := XD → DS → Prop
abbrev DE := XC → DS → (D → DS → Prop) → Prop
abbrev DF := XC → DS → (List D → DS → Prop) → Prop
abbrev DT := XC → DS → (Bool → DS → Prop) → Prop
abbrev DA := XC → DS → (List D → DS → Prop) → Prop
structure DEnds where
  nx : DS → Prop
  rt : D → DS → Prop
  ex : XC
  bk : DS → Prop := fun _ => False
  ct : DS → Prop := fun _ => False
abbrev DST := DEnds → DS → Prop

def XL (E : DC) (W : WX) (σ : L2.St) (x : XC) : Prop := ∀ (e : XD) Γ' P' H' cls d, Rep E P' H' σ Γ' → XIs E.K E.cl P' H' e cls d → x e Γ' → W cls d σ H'

def up (E : DC) (W : WX) (T : DE) : TE := fun σ H Q => ∃ P Γ x Qd, Rep E P H σ Γ ∧ T x Γ Qd ∧ XL E W σ x ∧
  ∀ d Γ' v P' H', Gr σ Γ P H Γ' P' H' → Rep E P' H' σ Γ' → Is E.K E.cl P' d v → Qd d Γ' → Q v H'
def upT (E : DC) (W : WX) (T : DT) : TT := fun σ H Q => ∃ P Γ x Qd, Rep E P H σ Γ ∧ T x Γ Qd ∧ XL E W σ x ∧
  ∀ b Γ' P' H', Gr σ Γ P H Γ' P' H' → Rep E P' H' σ Γ' → Qd b Γ' → Q b H'
def upA (E : DC) (W : WX) (T : DA) : TA := fun σ H Q => ∃ P Γ x Qd, Rep E P H σ Γ ∧ T x Γ Qd ∧ XL E W σ x ∧
  ∀ ds Γ' vs P' H', Gr σ Γ P H Γ' P' H' → Rep E P' H' σ Γ' → IsA E.K E.cl P' ds vs → Qd ds Γ' → Q vs H'
def upF (E : DC) (W : WX) (T : DF) : TE := fun σ H Q => ∃ P Γ x Qd, Rep E P H σ Γ ∧ T x Γ Qd ∧ XL E W σ x ∧
  ∀ ds Γ' a vs P' H', Gr σ Γ P H Γ' P' H' → Rep E P' H' σ Γ' → P' a = none → H a = none → E.H0 a = none → H' a = some (.lst vs) → IsA E.K E.cl P' ds vs → Qd ds Γ' → Q (.ref a) H'
structure SLk (E : DC) (W : WX) (P : Hp) (De : DEnds) (D : Ends) : Prop where
  nx : ∀ σ' Γ' P' H', Same P P' → Rep E P' H' σ' Γ' → De.nx Γ' → D.nx σ' H'
  rt : ∀ d v σ' Γ' P' H', Same P P' → Rep E P' H' σ' Γ' → Is E.K E.cl P' d v → De.rt d Γ' → D.rt v H'
  bk : ∀ σ' Γ' P' H', Same P P' → Rep E P' H' σ' Γ' → De.bk Γ' → D.bk σ' H'
  ct : ∀ σ' Γ' P' H', Same P P' → Rep E P' H' σ' Γ' → De.ct Γ' → D.ct σ' H'
  ex : ∀ σ', XL E W σ' De.ex
def upS (E : DC) (W : WX) (T : DST) : TS := fun D σ H => ∃ P Γ De, Rep E P H σ Γ ∧ T De Γ ∧ SLk E W P De D
end DL

namespace DL
open PySem L2

section
variable {E : DC} {W : WX} {P P' H H' : Hp} {σ : L2.St} {Γ Γ' : List Sl}
theorem Rep.get (R : Rep E P H σ Γ) {i : Nat} {d : D} (h : Γ[i]? = some (.d d)) : ∃ v, σ[i]? = some (some v) ∧ Is E.K E.cl P d v := by
  have hi : i < σ.length := by rw [R.len]; exact (List.getElem?_eq_some_iff.mp h).1
  obtain ⟨v, e, q⟩ := R.sl i _ σ[i] h (List.getElem?_eq_getElem hi)
  exact ⟨v, by rw [List.getElem?_eq_getElem hi, e], q⟩
theorem Rep.grow (R : Rep E P H σ Γ) (p : Same P P') (sub : Same P' H') (h : Same H H') (n : ∀ a o, P' a = some o → (∃ o', P a = some o') ∨ H a = none) : Rep E P' H' σ Γ where
  sub := sub
  p0 := R.p0.trans p
  h0 := fun a o e hn => h a o (R.h0 a o e hn)
  dm := fun a o e => by
    obtain ⟨o', e'⟩ := R.dm a o e
    exact ⟨o', h a o' e'⟩
  new := fun a o e => by
    rcases n a o e with ⟨o', e'⟩ | e'
    · exact R.new a o' e'
    · exact .inr (none_of_dm R.dm e')
  len := R.len
  sl := fun i s o e1 e2 => by
    have q := R.sl i s o e1 e2
    have free : ∀ a o, P a = none → H a = some o → P' a = none := fun a o n1 n2 => by
      cases z : P' a with
      | none => rfl
      | some u =>
        rcases n a u z with ⟨o', e'⟩ | e'
        · rw [n1] at e'; cases e'
        · rw [n2] at e'; cases e'
    cases s with
    | no => trivial
    | d x => obtain ⟨v, e, q⟩ := q; exact ⟨v, e, q.mono p⟩
    | m ds => obtain ⟨a, xs, e, n1, n2, q⟩ := q; exact ⟨a, xs, e, free a _ n1 n2, h _ _ n2, q.mono p⟩
    | md ks ds => obtain ⟨a, xs, e, n1, n2, n3, q⟩ := q; exact ⟨a, xs, e, free a _ n1 n2, h _ _ n2, n3, q.mono p⟩
    | mo a dx c ns ds => obtain ⟨xs, e, n1, n2, n3, q⟩ := q; exact ⟨xs, e, free a _ n1 n2, h _ _ n2, n3, q.mono p⟩
  dj := R.dj
  ow := R.ow
theorem Gr.grow (p : Same P P') (h : Same H H') (n : ∀ a o, P' a = some o → (∃ o', P a = some o') ∨ H a = none) : Gr σ Γ P H Γ P' H' where
  p := p
  n := fun a o e => (n a o e).elim .inl fun z => .inr (.inl z)
  k := fun a o e _ => h a o e
  dm := fun a o e => ⟨o, h a o e⟩
  o := fun _ z => z
theorem same_upd {p : Addr} {o : HO} (h : H p = none) : Same H (upd H p o) := fun b u q => by rw [upd_ne (ne_of_none q h)]; exact q
theorem sub_upd {p : Addr} {o : HO} (s : Same P H) (h : H p = none) : Same (upd P p o) (upd H p o) := fun b u q => by
  by_cases e : b = p
  · subst e; rw [upd_same] at q ⊢; exact q
  · rw [upd_ne e] at q ⊢; exact s b u q
theorem Rep.pnone (R : Rep E P H σ Γ) {p : Addr} (h : H p = none) : P p = none := R.sub.free h
theorem Rep.h0none (R : Rep E P H σ Γ) {p : Addr} (h : H p = none) : E.H0 p = none := none_of_dm R.dm h
theorem new_upd {p : Addr} {o : HO} (h : H p = none) : ∀ a u, upd P p o a = some u → (∃ o', P a = some o') ∨ H a = none := fun a u q => by
  by_cases e : a = p
  · subst e; exact .inr h
  · rw [upd_ne e] at q; exact .inl ⟨u, q⟩
theorem Rep.alloc (R : Rep E P H σ Γ) {p : Addr} (o : HO) (h : H p = none) : Rep E (upd P p o) (upd H p o) σ Γ :=
  R.grow (same_upd (R.pnone h)) (sub_upd R.sub h) (same_upd h) (new_upd h)
theorem Gr.alloc (R : Rep E P H σ Γ) {p : Addr} (o : HO) (h : H p = none) : Gr σ Γ P H Γ (upd P p o) (upd H p o) :=
  .grow (same_upd (R.pnone h)) (same_upd h) (new_upd h)
theorem Rep.fresh (R : Rep E P H σ Γ) {p : Addr} (o : HO) (h : H p = none) : Rep E P (upd H p o) σ Γ :=
  R.grow (Same.refl P) (R.sub.trans (same_upd h)) (same_upd h) fun a o' e => .inl ⟨o', e⟩
theorem Gr.fresh {p : Addr} (o : HO) (h : H p = none) : Gr σ Γ P H Γ P (upd H p o) :=
  .grow (Same.refl P) (same_upd h) fun a o' e => .inl ⟨o', e⟩
theorem Rep.know (R : Rep E P H σ Γ) {p : Addr} {o : HO} (h : H p = some o) (hp : P p = none) (h0 : E.H0 p = none) (no : ¬ Own σ Γ p) : Rep E (upd P p o) H σ Γ where
  sub := fun b u q => by
    by_cases e : b = p
    · subst e; rw [upd_same] at q; cases q; exact h
    · rw [upd_ne e] at q; exact R.sub b u q
  p0 := R.p0.trans (same_upd hp)
  h0 := R.h0
  dm := R.dm
  new := fun a u q => by
    by_cases e : a = p
    · subst e; exact .inr h0
    · rw [upd_ne e] at q; exact R.new a u q
  len := R.len
  sl := fun i s o' e1 e2 => by
    have q := R.sl i s o' e1 e2
    have p := same_upd (o := o) hp
    have free : ∀ a, s.own = true → o' = some (.ref a) → P a = none → upd P _ o a = none := fun a so eo n1 => by
      rw [upd_ne fun z => no ⟨i, s, e1, so, by rw [e2, eo, z]⟩]
      exact n1
    cases s with
    | no => trivial
    | d x => obtain ⟨v, e, q⟩ := q; exact ⟨v, e, q.mono p⟩
    | m ds => obtain ⟨a, xs, e, n1, n2, q⟩ := q; exact ⟨a, xs, e, free a rfl e n1, n2, q.mono p⟩
    | md ks ds => obtain ⟨a, xs, e, n1, n2, n3, q⟩ := q; exact ⟨a, xs, e, free a rfl e n1, n2, n3, q.mono p⟩
    | mo a dx c ns ds => obtain ⟨xs, e, n1, n2, n3, q⟩ := q; exact ⟨xs, e, free a rfl e n1, n2, n3, q.mono p⟩
  dj := R.dj
  ow := R.ow
theorem Own.set_le {i : Nat} {s : Sl} {a : Addr} (hs : s.own = false) (h : Own σ (Γ.set i s) a) : Own σ Γ a := by
  obtain ⟨j, t, h1, h2, h3⟩ := h
  by_cases e : i = j
  · subst e
    rw [List.getElem?_set] at h1
    simp only [if_true] at h1
    split at h1
    · cases h1; rw [hs] at h2; cases h2
    · cases h1
  · rw [List.getElem?_set_ne e] at h1
    exact ⟨j, t, h1, h2, h3⟩
theorem XL.set {x : XC} (h : XL E W σ x) : XL E W σ x := h

@[simp] def dVar (i : Nat) : DE := fun x Γ Q => match Γ[i]? with
  | some (.d d) => Q d Γ
  | _ => False
@[simp] def dC (d : V) : DE := fun x Γ Q => Q (.v d) Γ
variable {X : Cx}
theorem de_var (i : Nat) {x : Str} {pos : Pos} (hN : X.N[i]? = some x := by rfl) (hv : Vis X.env.scope x := by first | exact Or.inl rfl | exact Or.inr (Or.inl rfl) | exact Or.inr (Or.inr rfl)) (hd : (x == ("__debug__" : Str)) = false := by decide)
    (hcd : (x == ("__classdict__" : Str)) = false := by decide) : PE X (.Name x pos) (up E W (dVar i)) := by
  refine ⟨fun pins s σ H Q I h => ?_⟩
  obtain ⟨P, Γ, x', Qd, R, hT, _, hQ⟩ := h
  unfold dVar at hT
  split at hT
  · rename_i d e
    obtain ⟨v, e1, q⟩ := R.get e
    exact (pv i hN hv hd hcd).run pins s σ H Q I ⟨v, e1, hQ d Γ v P H .refl R q hT⟩
  · exact hT.elim
theorem cDE {e : Expr} {v : V} (h : PE X e (tC v)) : PE X e (up E W (dC v)) := by
  refine ⟨fun pins s σ H Q I hh => ?_⟩
  obtain ⟨P, Γ, x', Qd, R, hT, _, hQ⟩ := hh
  exact h.run pins s σ H Q I (hQ _ Γ v P H .refl R .v hT)
theorem de_int {i j pos} : PE X (.Constant (.int i) j pos) (up E W (dC (.int i))) := cDE pe_int
theorem de_bl {b j pos} : PE X (.Constant (.bool b) j pos) (up E W (dC (.bl b))) := cDE pe_bl
theorem de_non {j pos} : PE X (.Constant .none j pos) (up E W (dC .non)) := cDE pe_non
theorem de_str {x j pos} : PE X (.Constant (.str x) j pos) (up E W (dC (.str x))) := cDE pe_str

abbrev R1D := D → (D → Prop) → Prop
abbrev R2D := D → D → (D → Prop) → Prop
abbrev RND := List D → (D → Prop) → Prop
def Lk2 (E : DC) (r : R2) (R : R2D) : Prop := ∀ (P H : Hp) (σ : L2.St) (Γ : List Sl) (d1 d2 : D) (v1 v2 : V) (Q : VK) (Qd : D → Prop), Rep E P H σ Γ → Is E.K E.cl P d1 v1 → Is E.K E.cl P d2 v2 → R d1 d2 Qd →
  (∀ d v P' H', Gr σ Γ P H Γ P' H' → Rep E P' H' σ Γ → Is E.K E.cl P' d v → Qd d → Q v H') → r v1 v2 H Q
def Lk1 (E : DC) (r : V → Hp → VK → Prop) (R : R1D) : Prop := ∀ (P H : Hp) (σ : L2.St) (Γ : List Sl) (d1 : D) (v1 : V) (Q : VK) (Qd : D → Prop), Rep E P H σ Γ → Is E.K E.cl P d1 v1 → R d1 Qd →
  (∀ d v P' H', Gr σ Γ P H Γ P' H' → Rep E P' H' σ Γ → Is E.K E.cl P' d v → Qd d → Q v H') → r v1 H Q
def LkN (E : DC) (r : List V → Hp → VK → Prop) (R : RND) : Prop := ∀ (P H : Hp) (σ : L2.St) (Γ : List Sl) (ds : List D) (vs : List V) (Q : VK) (Qd : D → Prop), Rep E P H σ Γ → IsA E.K E.cl P ds vs → R ds Qd →
  (∀ d v P' H', Gr σ Γ P H Γ P' H' → Rep E P' H' σ Γ → Is E.K E.cl P' d v → Qd d → Q v H') → r vs H Q
def LkF (E : DC) (r : List V → Hp → VK → Prop) (R : List D → (List D → Prop) → Prop) : Prop := ∀ (P H : Hp) (σ : L2.St) (Γ : List Sl) (ds : List D) (vs : List V) (Q : VK) (Qd : List D → Prop), Rep E P H σ Γ → IsA E.K E.cl P ds vs → R ds Qd →
  (∀ es p ws H', Gr σ Γ P H Γ P H' → Rep E P H' σ Γ → H p = none → H' p = some (.lst ws) → IsA E.K E.cl P es ws → Qd es → Q (.ref p) H') → r vs H Q

@[simp] def dOp (R : R2D) (ta tb : DE) : DE := fun x Γ Q => ta x Γ fun d1 Γ1 => tb x Γ1 fun d2 Γ2 => R d1 d2 fun d => Q d Γ2
@[simp] def dUn (R : R1D) (ta : DE) : DE := fun x Γ Q => ta x Γ fun d1 Γ1 => R d1 fun d => Q d Γ1
theorem up_op {r : R2} {R : R2D} {ta tb : DE} (L : Lk2 E r R) {Q : VK} (h : up E W (dOp R ta tb) σ H Q) : tOp r (up E W ta) (up E W tb) σ H Q := by
  obtain ⟨P, Γ, x, Qd, Rp, hT, hx, hQ⟩ := h
  refine ⟨P, Γ, x, _, Rp, hT, hx, fun d1 Γ1 v1 P1 H1 g1 R1 i1 h1 => ?_⟩
  refine ⟨P1, Γ1, x, _, R1, h1, hx, fun d2 Γ2 v2 P2 H2 g2 R2 i2 h2 => ?_⟩
  exact L P2 H2 σ Γ2 d1 d2 v1 v2 Q _ R2 (i1.mono g2.p) i2 h2 fun d v P3 H3 g3 R3 i3 h3 => hQ d Γ2 v P3 H3 (g1.trans (g2.trans g3)) R3 i3 h3
theorem up_un {r : V → Hp → VK → Prop} {R : R1D} {ta : DE} (L : Lk1 E r R) {Q : VK} (h : up E W (dUn R ta) σ H Q) : tUn r (up E W ta) σ H Q := by
  obtain ⟨P, Γ, x, Qd, Rp, hT, hx, hQ⟩ := h
  refine ⟨P, Γ, x, _, Rp, hT, hx, fun d1 Γ1 v1 P1 H1 g1 R1 i1 h1 => ?_⟩
  exact L P1 H1 σ Γ1 d1 v1 Q _ R1 i1 h1 fun d v P3 H3 g3 R3 i3 h3 => hQ d Γ1 v P3 H3 (g1.trans g3) R3 i3 h3
theorem impE {e : Expr} {t t' : TE} (h : PE X e t) (k : ∀ σ H Q, t' σ H Q → t σ H Q) : PE X e t' := ⟨fun pins s σ H Q I hh => h.run pins s σ H Q I (k σ H Q hh)⟩
theorem impT {e : Expr} {t t' : TT} (h : PT X e t) (k : ∀ σ H Q, t' σ H Q → t σ H Q) : PT X e t' := ⟨fun pins s σ H Q I hh => h.run pins s σ H Q I (k σ H Q hh)⟩
theorem impW {e : Expr} {t t' : TT} (h : PW X e t) (k : ∀ σ H Q, t' σ H Q → t σ H Q) : PW X e t' := ⟨fun wh pins s σ H Q I hh => h.run wh pins s σ H Q I (k σ H Q hh)⟩
theorem impA {e : List Expr} {t t' : TA} (h : PA X e t) (k : ∀ σ H Q, t' σ H Q → t σ H Q) : PA X e t' := ⟨fun pos pins s σ H Q I hh => h.run pos pins s σ H Q I (k σ H Q hh)⟩
theorem impS {e : Stmt} {t t' : TS} (h : PS X e t) (k : ∀ D σ H, t' D σ H → t D σ H) : PS X e t' := ⟨fun pins s σ H D I hh => h.run pins s σ H D I (k D σ H hh)⟩
theorem impSs {e : List Stmt} {t t' : TS} (h : PSs X e t) (k : ∀ D σ H, t' D σ H → t D σ H) : PSs X e t' := ⟨fun pins s σ H D I hh => h.run pins s σ H D I (k D σ H hh)⟩
variable {a b c e : Expr} {es : List Expr} {ta tb tc te : DE} {pos : Pos}
theorem de_op {op : Operator} {r : R2} {R : R2D} (ho : OpR X (binaryOp op) r) (L : Lk2 E r R) (ha : PE X a (up E W ta)) (hb : PE X b (up E W tb)) : PE X (.BinOp a op b pos) (up E W (dOp R ta tb)) :=
  impE (pe_op ho ha hb) fun _ _ _ h => up_op L h
theorem de_un {op : UnaryOp} {r : V → Hp → VK → Prop} {R : R1D} (ho : UnR X (unaryOp op) r) (L : Lk1 E r R) (ha : PE X a (up E W ta)) : PE X (.UnaryOp op a pos) (up E W (dUn R ta)) :=
  impE (pe_un ho ha) fun _ _ _ h => up_un L h
theorem de_cmp {op : CmpOp} {r : R2} {R : R2D} (ho : OpR X (compareOp op) r) (L : Lk2 E r R) (ha : PE X a (up E W ta)) (hb : PE X b (up E W tb)) (hm : behindInMarks op b = false) : PE X (.Compare a [op] [b] pos) (up E W (dOp R ta tb)) :=
  impE (pe_cmpR ho ha hb hm) fun _ _ _ h => up_op L h

def At2 (r : R2) : Prop := ∀ x y H (Q : V → Prop) (Q' : VK), r x y (fun _ => none) (fun z _ => Q z) → (∀ z, Q z → Q' z H) → r x y H Q'
def rA2 (r : R2) : R2D := fun d1 d2 Q => match d1, d2 with
  | .v x, .v y => r x y (fun _ => none) fun z _ => Q (.v z)
  | _, _ => False
theorem lk_at2 {r : R2} (h : At2 r) : Lk2 E r (rA2 r) := by
  intro P H σ Γ d1 d2 v1 v2 Q Qd R i1 i2 hr hQ
  unfold rA2 at hr
  split at hr
  · rw [i1.v_inv, i2.v_inv]
    exact h _ _ _ _ _ hr fun z q => hQ _ _ P H .refl R .v q
  · exact hr.elim
def At1 (r : V → Hp → VK → Prop) : Prop := ∀ x H (Q : V → Prop) (Q' : VK), r x (fun _ => none) (fun z _ => Q z) → (∀ z, Q z → Q' z H) → r x H Q'
def rA1 (r : V → Hp → VK → Prop) : R1D := fun d1 Q => match d1 with
  | .v x => r x (fun _ => none) fun z _ => Q (.v z)
  | _ => False
theorem lk_at1 {r : V → Hp → VK → Prop} (h : At1 r) : Lk1 E r (rA1 r) := by
  intro P H σ Γ d1 v1 Q Qd R i1 hr hQ
  unfold rA1 at hr
  split at hr
  · rw [i1.v_inv]
    exact h _ _ _ _ hr fun z q => hQ _ _ P H .refl R .v q
  · exact hr.elim
end
end DL

namespace DL
open PySem L2

section
variable {E : DC} {W : WX} {P P' H H' : Hp} {σ : L2.St} {Γ Γ' : List Sl} {X : Cx}
variable {a b c e : Expr} {es : List Expr} {ta tb tc te : DE} {pos : Pos}

theorem at_rI0 (g : Int → Int → V) : At2 (rI0 g) := fun x y H Q Q' ⟨i, j, h1, h2, q⟩ k => ⟨i, j, h1, h2, k _ q⟩
theorem at_rI (C : Int → Int → Prop) (g : Int → Int → V) : At2 (rI C g) := fun x y H Q Q' ⟨i, j, h1, h2, c, q⟩ k => ⟨i, j, h1, h2, c, k _ q⟩
theorem at_rU (g : Int → V) : At1 (rU g) := fun x H Q Q' ⟨i, h1, q⟩ k => ⟨i, h1, k _ q⟩
@[simp] def dI2 (g : Int → Int → Int) : R2D := fun d1 d2 Q => match d1, d2 with
  | .v (.int i), .v (.int j) => Q (.v (.int (g i j)))
  | _, _ => False
@[simp] def dI2c (C : Int → Int → Prop) (g : Int → Int → Int) : R2D := fun d1 d2 Q => match d1, d2 with
  | .v (.int i), .v (.int j) => C i j ∧ Q (.v (.int (g i j)))
  | _, _ => False
@[simp] def dB2 (g : Int → Int → Bool) : R2D := fun d1 d2 Q => match d1, d2 with
  | .v (.int i), .v (.int j) => Q (.v (.bl (g i j)))
  | _, _ => False
theorem lk_I2 (g : Int → Int → Int) : Lk2 E (rI0 fun i j => .int (g i j)) (dI2 g) := by
  intro P H σ Γ d1 d2 v1 v2 Q Qd R i1 i2 hr hQ
  unfold dI2 at hr
  split at hr
  · rw [i1.v_inv, i2.v_inv]; exact ⟨_, _, rfl, rfl, hQ _ _ P H .refl R .v hr⟩
  · exact hr.elim
theorem lk_I2c (C : Int → Int → Prop) (g : Int → Int → Int) : Lk2 E (rI C fun i j => .int (g i j)) (dI2c C g) := by
  intro P H σ Γ d1 d2 v1 v2 Q Qd R i1 i2 hr hQ
  unfold dI2c at hr
  split at hr
  · rw [i1.v_inv, i2.v_inv]; exact ⟨_, _, rfl, rfl, hr.1, hQ _ _ P H .refl R .v hr.2⟩
  · exact hr.elim
theorem lk_B2 (g : Int → Int → Bool) : Lk2 E (rI0 fun i j => .bl (g i j)) (dB2 g) := by
  intro P H σ Γ d1 d2 v1 v2 Q Qd R i1 i2 hr hQ
  unfold dB2 at hr
  split at hr
  · rw [i1.v_inv, i2.v_inv]; exact ⟨_, _, rfl, rfl, hQ _ _ P H .refl R .v hr⟩
  · exact hr.elim
theorem de_sub (ha : PE X a (up E W ta)) (hb : PE X b (up E W tb)) : PE X (.BinOp a .Sub b pos) (up E W (dOp (dI2 fun i j => i - j) ta tb)) := de_op op_sub (lk_I2 _) ha hb
@[simp] def dMod : R2D := dI2c (fun _ j => 0 < j) fun i j => i % j
@[simp] def dDiv : R2D := dI2c CDiv fun i j => i / j
@[simp] def dPow : R2D := dI2c CPow fun i j => i ^ j.toNat
theorem de_mod (ha : PE X a (up E W ta)) (hb : PE X b (up E W tb)) : PE X (.BinOp a .Mod b pos) (up E W (dOp dMod ta tb)) := de_op op_mod (lk_I2c _ _) ha hb
theorem de_fdiv (ha : PE X a (up E W ta)) (hb : PE X b (up E W tb)) : PE X (.BinOp a .FloorDiv b pos) (up E W (dOp dDiv ta tb)) := de_op op_fdiv (lk_I2c _ _) ha hb
theorem de_pow (ha : PE X a (up E W ta)) (hb : PE X b (up E W tb)) : PE X (.BinOp a .Pow b pos) (up E W (dOp dPow ta tb)) := de_op op_pow (lk_I2c _ _) ha hb
@[simp] def dMul : R2D := fun d1 d2 Q => match d1, d2 with
  | .v (.int i), .v (.int j) => CMul i j ∧ Q (.v (.int (i * j)))
  | .lst xs, .v (.int k) => (-(2 ^ 63) ≤ k ∧ k < 2 ^ 63 ∧ xs.length * k.toNat ≤ sizeLine) ∧ Q (.lst (List.replicate k.toNat xs).flatten)
  | _, _ => False
theorem IsA.rep {K : PySem.W.Frag} {cl : Nat → Addr} {ds : List D} {xs : List V} (h : IsA K cl P ds xs) : ∀ k : Nat, IsA K cl P (List.replicate k ds).flatten (List.replicate k xs).flatten
  | 0 => .nil
  | k + 1 => by
    rw [List.replicate_succ, List.replicate_succ, List.flatten_cons, List.flatten_cons]
    exact h.append (h.rep k)
theorem SqL.upd {K : PySem.W.Frag} {p : Addr} {xs : List V} : SqL K (upd H p (.lst xs)) p xs := .of upd_same
theorem SqT.upd {K : PySem.W.Frag} {p : Addr} {xs : List V} : SqT K (upd H p (.tup xs)) p xs := .of upd_same
end
end DL

namespace DL
open PySem L2

section
variable {E : DC} {W : WX} {P P' H H' : Hp} {σ : L2.St} {Γ Γ' : List Sl} {X : Cx}
variable {a b c e : Expr} {es : List Expr} {ta tb tc te : DE} {pos : Pos}

theorem IsA.lenEq {K : PySem.W.Frag} {cl : Nat → Addr} {ds : List D} {xs : List V} (h : IsA K cl P ds xs) : xs.length = ds.length := h.length
theorem lk_mul : Lk2 E (fun x y H Q => rI CMul (fun i j => .int (i * j)) x y H Q ∨ rRep x y H Q) dMul := by
  intro P H σ Γ d1 d2 v1 v2 Q Qd R i1 i2 hr hQ
  unfold dMul at hr
  split at hr
  · rw [i1.v_inv, i2.v_inv]; exact .inl ⟨_, _, rfl, rfl, hr.1, hQ _ _ P H .refl R .v hr.2⟩
  · obtain ⟨p, xs, rfl, hp, hx⟩ := i1.lst_inv
    rw [i2.v_inv]
    obtain ⟨⟨h1, h2, h3⟩, hr⟩ := hr
    refine .inr ⟨p, _, xs, rfl, rfl, R.sub _ _ hp, h1, h2, by rw [hx.length]; exact h3, fun q hq => ?_⟩
    exact hQ _ _ _ _ (Gr.alloc R _ hq) (R.alloc _ hq) (.lst upd_same ((hx.mono (Gr.alloc R _ hq).p).rep _)) hr
  · exact hr.elim
theorem de_mul (ha : PE X a (up E W ta)) (hb : PE X b (up E W tb)) : PE X (.BinOp a .Mult b pos) (up E W (dOp dMul ta tb)) := de_op (op_mul.or op_rep) lk_mul ha hb
@[simp] def dAdd : R2D := fun d1 d2 Q => match d1, d2 with
  | .v (.int i), .v (.int j) => Q (.v (.int (i + j)))
  | .v (.str x), .v (.str y) => x.length + y.length ≤ sizeLine ∧ Q (.v (.str (x ++ y)))
  | .lst xs, .lst ys => xs.length + ys.length ≤ sizeLine ∧ Q (.lst (xs ++ ys))
  | .tup xs, .tup ys => xs.length + ys.length ≤ sizeLine ∧ Q (.tup (xs ++ ys))
  | _, _ => False
def rAddS : R2 := fun x y H Q => ∃ i j, x = .str i ∧ y = .str j ∧ i.length + j.length ≤ sizeLine ∧ Q (.str (i ++ j)) H
theorem lk_add : Lk2 E (fun x y H Q => rI0 (fun i j => .int (i + j)) x y H Q ∨ rAddS x y H Q ∨ rCat x y H Q ∨ rCatA E.K x y H Q) dAdd := by
  intro P H σ Γ d1 d2 v1 v2 Q Qd R i1 i2 hr hQ
  unfold dAdd at hr
  split at hr
  · rw [i1.v_inv, i2.v_inv]; exact .inl ⟨_, _, rfl, rfl, hQ _ _ P H .refl R .v hr⟩
  · rw [i1.v_inv, i2.v_inv]; exact .inr (.inl ⟨_, _, rfl, rfl, hr.1, hQ _ _ P H .refl R .v hr.2⟩)
  · obtain ⟨p, xs, rfl, hp, hx⟩ := i1.lst_inv
    obtain ⟨q, ys, rfl, hq, hy⟩ := i2.lst_inv
    refine .inr (.inr (.inl ⟨p, q, xs, ys, rfl, rfl, R.sub _ _ hp, R.sub _ _ hq, by rw [hx.length, hy.length]; exact hr.1, fun r hn => ?_⟩))
    have g := Gr.alloc R (o := .lst (xs ++ ys)) hn
    exact hQ _ _ _ _ g (R.alloc _ hn) (.lst upd_same ((hx.append hy).mono g.p)) hr.2
  · obtain ⟨p, xs, rfl, hp, hx⟩ := i1.tup_inv
    obtain ⟨q, ys, rfl, hq, hy⟩ := i2.tup_inv
    refine .inr (.inr (.inr ⟨p, q, xs, ys, rfl, rfl, sqT_mono R.sub hp, sqT_mono R.sub hq, by rw [hx.length, hy.length]; exact hr.1, fun z => ?_, fun _ z => ?_, fun _ _ r hn => ?_⟩))
    · subst z
      refine hQ _ _ P H .refl R (.tup hq ?_) hr.2
      have := hx.append hy
      simpa using this
    · subst z
      refine hQ _ _ P H .refl R (.tup hp ?_) hr.2
      have := hx.append hy
      simpa using this
    · have g := Gr.alloc R (o := .tup (xs ++ ys)) hn
      exact hQ _ _ _ _ g (R.alloc _ hn) (.tup SqT.upd ((hx.append hy).mono g.p)) hr.2
  · exact hr.elim
theorem de_add (hK : X.K = E.K) (ha : PE X a (up E W ta)) (hb : PE X b (up E W tb)) : PE X (.BinOp a .Add b pos) (up E W (dOp dAdd ta tb)) :=
  de_op (by have h : OpR X (binaryOp .Add) (rCatA E.K) := by (rw [← hK]; exact op_catA)
            exact op_add.or ((show OpR X (binaryOp .Add) rAddS from op_add_str).or (op_cat.or h))) lk_add ha hb

@[simp] def dLt : R2D := dB2 fun i j => decide (i < j)
@[simp] def dLe : R2D := dB2 fun i j => decide (i ≤ j)
@[simp] def dGt : R2D := dB2 fun i j => decide (j < i)
@[simp] def dGe : R2D := dB2 fun i j => decide (j ≤ i)
def py : D → Option PyData
  | .v .non => some .none
  | .v (.bl b) => some (.bool b)
  | .v (.int i) => some (.int i)
  | .v (.str x) => some (.str x)
  | .lst ds => (pyA ds).map .list
  | .kst ds => (pyA ds).map .list
  | .tup ds => (pyA ds).map .tuple
  | _ => none
where pyA : List D → Option (List PyData)
  | [] => some []
  | d :: ds => match py d, pyA ds with
    | some p, some ps => some (p :: ps)
    | _, _ => none
end
section
variable {K : PySem.W.Frag} {cl : Nat → Addr} {P H : Hp}
mutual
theorem Is.dp (s : Same P H) : ∀ (d : D) (v : V) (p : PyData), Is K cl P d v → py d = some p → Dp K H v p
  | .v x, v, p, h, e => by
    rw [h.v_inv]
    cases x <;> simp only [py, Option.some.injEq, reduceCtorEq] at e
    · subst e; exact .non
    · subst e; exact .bl _
    · subst e; exact .int _
    · subst e; exact .str _
  | .lst ds, v, p, h, e => by
    obtain ⟨a, xs, rfl, ha, hx⟩ := h.lst_inv
    simp only [py, Option.map_eq_some_iff] at e
    obtain ⟨ps, e1, rfl⟩ := e
    exact .lst (.of (s _ _ ha)) (IsA.dp s ds xs ps hx e1)
  | .kst ds, v, p, h, e => by
    obtain ⟨a, xs, rfl, ha, hx⟩ := h.kst_inv
    simp only [py, Option.map_eq_some_iff] at e
    obtain ⟨ps, e1, rfl⟩ := e
    exact .lst (s.seq ha) (IsA.dp s ds xs ps hx e1)
  | .tup ds, v, p, h, e => by
    obtain ⟨a, xs, rfl, ha, hx⟩ := h.tup_inv
    simp only [py, Option.map_eq_some_iff] at e
    obtain ⟨ps, e1, rfl⟩ := e
    exact .tup (sqT_mono s ha) (IsA.dp s ds xs ps hx e1)
  | .dic _ _, v, p, h, e => by simp [py] at e
  | .obj _ _ _, v, p, h, e => by simp [py] at e
  | .stk, v, p, h, e => by simp [py] at e
theorem IsA.dp (s : Same P H) : ∀ (ds : List D) (vs : List V) (ps : List PyData), IsA K cl P ds vs → py.pyA ds = some ps → DpAll K H vs ps
  | [], vs, ps, h, e => by
    simp only [py.pyA, Option.some.injEq] at e
    subst e
    rw [h.nil_inv]; exact .nil
  | d :: ds, vs, ps, h, e => by
    obtain ⟨x, r, rfl, h1, h2⟩ := h.cons_inv
    unfold py.pyA at e
    split at e
    · rename_i p qs e1 e2
      cases e
      exact .cons (Is.dp s d x p h1 e1) (IsA.dp s ds r qs h2 e2)
    · cases e
end
end
section
variable {E : DC} {W : WX} {P P' H H' : Hp} {σ : L2.St} {Γ Γ' : List Sl} {X : Cx}
variable {a b c e : Expr} {es : List Expr} {ta tb tc te : DE} {pos : Pos}
def eqb (d1 d2 : D) : Option Bool := match d1, d2 with
  | .v x, .v y => if scal x y then some (decide (x = y)) else none
  | _, _ => match py d1, py d2 with
    | some p, some q => if SeqAt.shaped p && SeqAt.shaped q then some (PyData.eqv p q) else none
    | _, _ => none
@[simp] def dEq : R2D := fun d1 d2 Q => match eqb d1 d2 with
  | some k => Q (.v (.bl k))
  | none => False
@[simp] def dNe : R2D := fun d1 d2 Q => match eqb d1 d2 with
  | some k => Q (.v (.bl (!k)))
  | none => False
theorem eqb_cases {d1 d2 : D} {k : Bool} (h : eqb d1 d2 = some k) : (∃ x y, d1 = .v x ∧ d2 = .v y ∧ scal x y = true ∧ k = decide (x = y)) ∨ ∃ p q, py d1 = some p ∧ py d2 = some q ∧ SeqAt.shaped p = true ∧ SeqAt.shaped q = true ∧ k = PyData.eqv p q := by
  unfold eqb at h
  split at h
  · split at h
    · rename_i x y hs
      cases h
      exact .inl ⟨x, y, rfl, rfl, hs, rfl⟩
    · cases h
  · split at h
    · rename_i p q e1 e2
      split at h
      · rename_i hs
        rw [Bool.and_eq_true] at hs
        cases h
        exact .inr ⟨p, q, e1, e2, hs.1, hs.2, rfl⟩
      · cases h
    · cases h
theorem lk_eq : Lk2 E (fun x y H Q => rEq x y H Q ∨ rEqD E.K x y H Q) dEq := by
  intro P H σ Γ d1 d2 v1 v2 Q Qd R i1 i2 hr hQ
  unfold dEq at hr
  split at hr
  · rename_i k ek
    rcases eqb_cases ek with ⟨x, y, rfl, rfl, hs, rfl⟩ | ⟨p, q, e1, e2, s1, s2, rfl⟩
    · rw [i1.v_inv, i2.v_inv]; exact .inl ⟨hs, hQ _ _ P H .refl R .v hr⟩
    · exact .inr ⟨p, q, i1.dp R.sub _ _ _ e1, i2.dp R.sub _ _ _ e2, s1, s2, hQ _ _ P H .refl R .v hr⟩
  · exact hr.elim
theorem lk_ne : Lk2 E (fun x y H Q => rNe x y H Q ∨ rNeD E.K x y H Q) dNe := by
  intro P H σ Γ d1 d2 v1 v2 Q Qd R i1 i2 hr hQ
  unfold dNe at hr
  split at hr
  · rename_i k ek
    rcases eqb_cases ek with ⟨x, y, rfl, rfl, hs, rfl⟩ | ⟨p, q, e1, e2, s1, s2, rfl⟩
    · rw [i1.v_inv, i2.v_inv]; exact .inl ⟨hs, hQ _ _ P H .refl R .v hr⟩
    · exact .inr ⟨p, q, i1.dp R.sub _ _ _ e1, i2.dp R.sub _ _ _ e2, s1, s2, hQ _ _ P H .refl R .v hr⟩
  · exact hr.elim
theorem opEq (hK : X.K = E.K) (hu : X.A.units + 64 < cLine) : OpR X (compareOp .Eq) (fun x y H Q => rEq x y H Q ∨ rEqD E.K x y H Q) := by
  have h : OpR X (compareOp .Eq) (rEqD E.K) := by rw [← hK]; exact op_eqD hu
  exact op_eq.or h
theorem opNe (hK : X.K = E.K) (hu : X.A.units + 64 < cLine) : OpR X (compareOp .NotEq) (fun x y H Q => rNe x y H Q ∨ rNeD E.K x y H Q) := by
  have h : OpR X (compareOp .NotEq) (rNeD E.K) := by rw [← hK]; exact op_neD hu
  exact op_ne.or h
def atm : D → Option V
  | .v x => some x
  | _ => none
def atms : List D → Option (List V)
  | [] => some []
  | .v x :: ds => (atms ds).map (x :: ·)
  | _ :: _ => none
theorem atms_eq : ∀ {ds : List D} {xs : List V}, atms ds = some xs → ds = xs.map D.v
  | [], xs, h => by simp only [atms, Option.some.injEq] at h; subst h; rfl
  | .v x :: ds, xs, h => by
    simp only [atms, Option.map_eq_some_iff] at h
    obtain ⟨r, h1, rfl⟩ := h
    rw [atms_eq h1]; rfl
  | .lst _ :: _, _, h => by simp [atms] at h
  | .kst _ :: _, _, h => by simp [atms] at h
  | .tup _ :: _, _, h => by simp [atms] at h
  | .dic _ _ :: _, _, h => by simp [atms] at h
  | .obj _ _ _ :: _, _, h => by simp [atms] at h
  | .stk :: _, _, h => by simp [atms] at h
def inb (d1 d2 : D) : Option Bool := match d1, d2 with
  | .v (.str x), .v (.str y) => some (!(Builtin.Str.occurrences y x 0 y.length 1).isEmpty)
  | .v x, .lst ds => match atms ds with
    | some xs => if flatV x && xs.all flatV then some (inV x xs) else none
    | none => none
  | .v x, .kst ds => match atms ds with
    | some xs => if flatV x && xs.all flatV then some (inV x xs) else none
    | none => none
  | .v x, .tup ds => match atms ds with
    | some xs => if flatV x && xs.all flatV then some (inV x xs) else none
    | none => none
  | _, _ => none
@[simp] def dIn : R2D := fun d1 d2 Q => match inb d1 d2 with
  | some k => Q (.v (.bl k))
  | none => False
@[simp] def dNotIn : R2D := fun d1 d2 Q => match inb d1 d2 with
  | some k => Q (.v (.bl (!k)))
  | none => False
def rInS : R2 := fun x y H Q => ∃ i j, x = .str i ∧ y = .str j ∧ Q (.bl (!(Builtin.Str.occurrences j i 0 j.length 1).isEmpty)) H
def rNotInS : R2 := fun x y H Q => ∃ i j, x = .str i ∧ y = .str j ∧ Q (.bl (!(!(Builtin.Str.occurrences j i 0 j.length 1).isEmpty))) H
theorem lk_inb {neg : Bool} {P H : Hp} {Γ : List Sl} {d1 d2 : D} {v1 v2 : V} {Q : VK} (R : Rep E P H σ Γ) (i1 : Is E.K E.cl P d1 v1) (i2 : Is E.K E.cl P d2 v2) {k : Bool} (h : inb d1 d2 = some k) (hQ : Q (.bl (if neg then !k else k)) H) :
    (∃ i j, v1 = .str i ∧ v2 = .str j ∧ Q (.bl (if neg then !(!(Builtin.Str.occurrences j i 0 j.length 1).isEmpty) else !(Builtin.Str.occurrences j i 0 j.length 1).isEmpty)) H) ∨ rIn E.K neg v1 v2 H Q := by
  unfold inb at h
  split at h
  · rw [i1.v_inv, i2.v_inv]; cases h; exact .inl ⟨_, _, rfl, rfl, hQ⟩
  · obtain ⟨p, xs, rfl, hp, hx⟩ := i2.lst_inv
    split at h
    · rename_i zs ez
      split at h
      · rename_i hf
        rw [Bool.and_eq_true] at hf
        cases h
        rw [atms_eq ez] at hx
        obtain rfl := hx.atoms
        rw [i1.v_inv]
        exact .inr ⟨p, _, rfl, .inl (.of (R.sub _ _ hp)), hf.1, hf.2, hQ⟩
      · cases h
    · cases h
  · obtain ⟨p, xs, rfl, hp, hx⟩ := i2.kst_inv
    split at h
    · rename_i zs ez
      split at h
      · rename_i hf
        rw [Bool.and_eq_true] at hf
        cases h
        rw [atms_eq ez] at hx
        obtain rfl := hx.atoms
        rw [i1.v_inv]
        exact .inr ⟨p, _, rfl, .inl (R.sub.seq hp), hf.1, hf.2, hQ⟩
      · cases h
    · cases h
  · obtain ⟨p, xs, rfl, hp, hx⟩ := i2.tup_inv
    split at h
    · rename_i zs ez
      split at h
      · rename_i hf
        rw [Bool.and_eq_true] at hf
        cases h
        rw [atms_eq ez] at hx
        obtain rfl := hx.atoms
        rw [i1.v_inv]
        exact .inr ⟨p, _, rfl, .inr (sqT_mono R.sub hp), hf.1, hf.2, hQ⟩
      · cases h
    · cases h
  · cases h
theorem lk_in : Lk2 E (fun x y H Q => rInS x y H Q ∨ rIn E.K false x y H Q) dIn := by
  intro P H σ Γ d1 d2 v1 v2 Q Qd R i1 i2 hr hQ
  unfold dIn at hr
  split at hr
  · rename_i k ek
    exact lk_inb (neg := false) R i1 i2 ek (hQ _ _ P H .refl R .v hr)
  · exact hr.elim
theorem lk_notIn : Lk2 E (fun x y H Q => rNotInS x y H Q ∨ rIn E.K true x y H Q) dNotIn := by
  intro P H σ Γ d1 d2 v1 v2 Q Qd R i1 i2 hr hQ
  unfold dNotIn at hr
  split at hr
  · rename_i k ek
    exact lk_inb (neg := true) R i1 i2 ek (hQ _ _ P H .refl R .v hr)
  · exact hr.elim
theorem opIn (hK : X.K = E.K) : OpR X (compareOp .In) (fun x y H Q => rInS x y H Q ∨ rIn E.K false x y H Q) := by
  have h : OpR X (compareOp .In) (rIn E.K false) := by rw [← hK]; exact op_in_seq
  exact (show OpR X (compareOp .In) rInS from op_in_str).or h
theorem opNotIn (hK : X.K = E.K) : OpR X (compareOp .NotIn) (fun x y H Q => rNotInS x y H Q ∨ rIn E.K true x y H Q) := by
  have h : OpR X (compareOp .NotIn) (rIn E.K true) := by rw [← hK]; exact op_notIn_seq
  exact (show OpR X (compareOp .NotIn) rNotInS from op_notIn_str).or h
end
end DL

namespace DL
open PySem L2

section
variable {E : DC} {W : WX} {P P' H H' : Hp} {σ : L2.St} {Γ Γ' : List Sl} {X : Cx}
variable {a b c e : Expr} {es : List Expr} {ta tb tc te : DE} {pos : Pos}

@[simp] def dTest (te : DE) : DT := fun x Γ Q => te x Γ fun d Γ1 => match d with
  | .v (.bl k) => Q k Γ1
  | _ => False
theorem up_test {te : DE} {Q : Bool → Hp → Prop} (h : upT E W (dTest te) σ H Q) : up E W te σ H fun x H1 => ∃ c, x = .bl c ∧ Q c H1 := by
  obtain ⟨P, Γ, x, Qd, R, hT, hx, hQ⟩ := h
  refine ⟨P, Γ, x, _, R, hT, hx, fun d Γ1 v P1 H1 g1 R1 i1 h1 => ?_⟩
  split at h1
  · exact ⟨_, i1.v_inv, hQ _ _ _ _ g1 R1 h1⟩
  · exact h1.elim
theorem dt_val (he : PE X e (up E W te)) (hh : ∀ whole, isTrue e X.env whole = (do let v ← whole; standAt e.pos; holding [v] (truthy v)) := by intro _; rfl) : PT X e (upT E W (dTest te)) :=
  impT (pt_val he hh) fun _ _ _ h => up_test h
theorem dt_cmp {op : CmpOp} {r : R2} {R : R2D} (ho : OpR X (compareOp op) r) (L : Lk2 E r R) (ha : PE X a (up E W ta)) (hb : PE X b (up E W tb)) (hm : behindInMarks op b = false) : PT X (.Compare a [op] [b] pos) (upT E W (dTest (dOp R ta tb))) :=
  impT (pt_cmpR ho ha hb hm) fun _ _ _ h => up_op L (up_test h)
@[simp] def tru : D → Option Bool
  | .v .non => some false
  | .v (.bl k) => some k
  | .v (.int i) => some (i != 0)
  | .lst ds => some (!ds.isEmpty)
  | .kst ds => some (!ds.isEmpty)
  | .tup ds => some (!ds.isEmpty)
  | .dic ks _ => some (!ks.isEmpty)
  | _ => none
@[simp] def dTru (te : DE) : DT := fun x Γ Q => te x Γ fun d Γ1 => match d with
  | .v (.str s) => s.length ≤ sizeLine ∧ Q ((s.length : Int) != 0) Γ1
  | d => match tru d with
    | some k => Q k Γ1
    | none => False
theorem isEmpty_len {α β : Type} {xs : List α} {ys : List β} (h : xs.length = ys.length) : xs.isEmpty = ys.isEmpty := by
  cases xs <;> cases ys <;> first | rfl | simp at h
theorem up_tru (hK : X.K = E.K) {te : DE} {Q : Bool → Hp → Prop} (h : upT E W (dTru te) σ H Q) : up E W te σ H fun x H1 => ∃ k, TruV X.K x H1 k ∧ Q k H1 := by
  rw [hK]
  obtain ⟨P, Γ, x, Qd, R, hT, hx, hQ⟩ := h
  refine ⟨P, Γ, x, _, R, hT, hx, fun d Γ1 v P1 H1 g1 R1 i1 h1 => ?_⟩
  split at h1
  · rw [i1.v_inv]; exact ⟨_, ⟨h1.1, rfl⟩, hQ _ _ _ _ g1 R1 h1.2⟩
  · split at h1
    · rename_i k ek
      refine ⟨k, ?_, hQ _ _ _ _ g1 R1 h1⟩
      unfold tru at ek
      split at ek <;> try cases ek
      · rw [i1.v_inv]; rfl
      · rw [i1.v_inv]; rfl
      · rw [i1.v_inv]; rfl
      · obtain ⟨p, xs, rfl, hp, hx⟩ := i1.lst_inv
        exact .inl ⟨xs, .of (R1.sub _ _ hp), by rw [isEmpty_len hx.length]⟩
      · obtain ⟨p, xs, rfl, hp, hx⟩ := i1.kst_inv
        exact .inl ⟨xs, R1.sub.seq hp, by rw [isEmpty_len hx.length]⟩
      · obtain ⟨p, xs, rfl, hp, hx⟩ := i1.tup_inv
        exact .inr (.inl ⟨xs, sqT_mono R1.sub hp, by rw [isEmpty_len hx.length]⟩)
      · obtain ⟨p, xs, rfl, hp, hk, hx⟩ := i1.dic_inv
        exact .inr (.inr ⟨xs, R1.sub _ _ hp, by rw [← hk, isEmpty_len (List.length_map _)]⟩)
    · exact h1.elim
theorem dt_tru (hK : X.K = E.K) (he : PE X e (up E W te)) (hh : ∀ whole, isTrue e X.env whole = (do let v ← whole; standAt e.pos; holding [v] (truthy v)) := by intro _; rfl) : PT X e (upT E W (dTru te)) :=
  impT (pt_truth he hh) fun _ _ _ h => up_tru hK h
def isN : D → Bool
  | .v x => decide (x = .non)
  | _ => false
@[simp] def dIsN (ta : DE) : DE := fun x Γ Q => ta x Γ fun d Γ1 => Q (.v (.bl (isN d))) Γ1
@[simp] def dNotN (ta : DE) : DE := fun x Γ Q => ta x Γ fun d Γ1 => Q (.v (.bl (!isN d))) Γ1
theorem isN_eq {K : PySem.W.Frag} {cl : Nat → Addr} {d : D} {v : V} (h : Is K cl P d v) : decide (v = .non) = isN d := by
  cases d with
  | v x => rw [h.v_inv]; rfl
  | _ =>
    obtain ⟨a, rfl⟩ := h.ref_of (fun x => nofun)
    rfl
theorem up_isN {Q : VK} (h : up E W (dIsN ta) σ H Q) : tIsN (up E W ta) σ H Q := by
  obtain ⟨P, Γ, x, Qd, R, hT, hx, hQ⟩ := h
  refine ⟨P, Γ, x, _, R, hT, hx, fun d Γ1 v P1 H1 g1 R1 i1 h1 => ?_⟩
  show Q (V.bl (decide (v = V.non))) H1
  rw [isN_eq i1]
  exact hQ _ _ _ _ _ g1 R1 .v h1
theorem up_notN {Q : VK} (h : up E W (dNotN ta) σ H Q) : tNotN (up E W ta) σ H Q := by
  obtain ⟨P, Γ, x, Qd, R, hT, hx, hQ⟩ := h
  refine ⟨P, Γ, x, _, R, hT, hx, fun d Γ1 v P1 H1 g1 R1 i1 h1 => ?_⟩
  show Q (V.bl (!decide (v = V.non))) H1
  rw [isN_eq i1]
  exact hQ _ _ _ _ _ g1 R1 .v h1
theorem de_isN {j pos'} (ha : PE X a (up E W ta)) : PE X (.Compare a [.Is] [.Constant .none j pos'] pos) (up E W (dIsN ta)) := impE (pe_cmp (pc_isN ha)) fun _ _ _ h => up_isN h
theorem de_notN {j pos'} (ha : PE X a (up E W ta)) : PE X (.Compare a [.IsNot] [.Constant .none j pos'] pos) (up E W (dNotN ta)) := impE (pe_cmp (pc_notN ha)) fun _ _ _ h => up_notN h
theorem dt_isN {j pos'} (ha : PE X a (up E W ta)) : PT X (.Compare a [.Is] [.Constant .none j pos'] pos) (upT E W (dTest (dIsN ta))) := impT (pt_cmp (pc_isN ha)) fun _ _ _ h => up_isN (up_test h)
theorem dt_notN {j pos'} (ha : PE X a (up E W ta)) : PT X (.Compare a [.IsNot] [.Constant .none j pos'] pos) (upT E W (dTest (dNotN ta))) := impT (pt_cmp (pc_notN ha)) fun _ _ _ h => up_notN (up_test h)
variable {tt tu : DT} {rest : List Expr}
@[simp] def dAnd (t u : DT) : DT := fun x Γ Q => t x Γ fun k Γ1 => if k = true then u x Γ1 Q else Q false Γ1
@[simp] def dOr (t u : DT) : DT := fun x Γ Q => t x Γ fun k Γ1 => if k = true then Q true Γ1 else u x Γ1 Q
@[simp] def dNot (t : DT) : DT := fun x Γ Q => t x Γ fun k Γ1 => Q (!k) Γ1
theorem up_and {Q : Bool → Hp → Prop} (h : upT E W (dAnd tt tu) σ H Q) : tAnd (upT E W tt) (upT E W tu) σ H Q := by
  obtain ⟨P, Γ, x, Qd, R, hT, hx, hQ⟩ := h
  refine ⟨P, Γ, x, _, R, hT, hx, fun k Γ1 P1 H1 g1 R1 h1 => ?_⟩
  cases k with
  | true => exact ⟨P1, Γ1, x, Qd, R1, h1, hx, fun k2 Γ2 P2 H2 g2 R2 h2 => hQ _ _ _ _ (g1.trans g2) R2 h2⟩
  | false => exact hQ _ _ _ _ g1 R1 h1
theorem up_or {Q : Bool → Hp → Prop} (h : upT E W (dOr tt tu) σ H Q) : tOr (upT E W tt) (upT E W tu) σ H Q := by
  obtain ⟨P, Γ, x, Qd, R, hT, hx, hQ⟩ := h
  refine ⟨P, Γ, x, _, R, hT, hx, fun k Γ1 P1 H1 g1 R1 h1 => ?_⟩
  cases k with
  | false => exact ⟨P1, Γ1, x, Qd, R1, h1, hx, fun k2 Γ2 P2 H2 g2 R2 h2 => hQ _ _ _ _ (g1.trans g2) R2 h2⟩
  | true => exact hQ _ _ _ _ g1 R1 h1
theorem up_not {Q : Bool → Hp → Prop} (h : upT E W (dNot tt) σ H Q) : tNot (upT E W tt) σ H Q := by
  obtain ⟨P, Γ, x, Qd, R, hT, hx, hQ⟩ := h
  exact ⟨P, Γ, x, _, R, hT, hx, fun k Γ1 P1 H1 g1 R1 h1 => hQ _ _ _ _ g1 R1 h1⟩
theorem dw_and1 (ha : PT X a (upT E W tt)) : PW X (.BoolOp .And [a] pos) (upT E W tt) := pw_and1 ha
theorem dw_or1 (ha : PT X a (upT E W tt)) : PW X (.BoolOp .Or [a] pos) (upT E W tt) := pw_or1 ha
theorem dw_and (ha : PT X a (upT E W tt)) (hb : PW X (.BoolOp .And (b :: rest) pos) (upT E W tu)) : PW X (.BoolOp .And (a :: b :: rest) pos) (upT E W (dAnd tt tu)) := impW (pw_and ha hb) fun _ _ _ h => up_and h
theorem dw_or (ha : PT X a (upT E W tt)) (hb : PW X (.BoolOp .Or (b :: rest) pos) (upT E W tu)) : PW X (.BoolOp .Or (a :: b :: rest) pos) (upT E W (dOr tt tu)) := impW (pw_or ha hb) fun _ _ _ h => up_or h
theorem dt_not (ha : PT X a (upT E W tt)) : PT X (.UnaryOp .Not a pos) (upT E W (dNot tt)) := impT (pt_not ha) fun _ _ _ h => up_not h
@[simp] def dAndV (ta tb : DE) : DE := fun x Γ Q => ta x Γ fun d Γ1 => match d with
  | .v (.bl true) => tb x Γ1 Q
  | .v (.bl false) => Q (.v (.bl false)) Γ1
  | _ => False
@[simp] def dOrV (ta tb : DE) : DE := fun x Γ Q => ta x Γ fun d Γ1 => match d with
  | .v (.bl false) => tb x Γ1 Q
  | .v (.bl true) => Q (.v (.bl true)) Γ1
  | _ => False
@[simp] def dNotV (ta : DE) : DE := fun x Γ Q => ta x Γ fun d Γ1 => match d with
  | .v (.bl k) => Q (.v (.bl (!k))) Γ1
  | _ => False
theorem up_andV {Q : VK} (h : up E W (dAndV ta tb) σ H Q) : tAndV (up E W ta) (up E W tb) σ H Q := by
  obtain ⟨P, Γ, x, Qd, R, hT, hx, hQ⟩ := h
  refine ⟨P, Γ, x, _, R, hT, hx, fun d Γ1 v P1 H1 g1 R1 i1 h1 => ?_⟩
  split at h1
  · exact ⟨true, i1.v_inv, P1, Γ1, x, Qd, R1, h1, hx, fun d2 Γ2 v2 P2 H2 g2 R2 i2 h2 => hQ _ _ _ _ _ (g1.trans g2) R2 i2 h2⟩
  · exact ⟨false, i1.v_inv, hQ _ _ _ _ _ g1 R1 .v h1⟩
  · exact h1.elim
theorem up_orV {Q : VK} (h : up E W (dOrV ta tb) σ H Q) : tOrV (up E W ta) (up E W tb) σ H Q := by
  obtain ⟨P, Γ, x, Qd, R, hT, hx, hQ⟩ := h
  refine ⟨P, Γ, x, _, R, hT, hx, fun d Γ1 v P1 H1 g1 R1 i1 h1 => ?_⟩
  split at h1
  · exact ⟨false, i1.v_inv, P1, Γ1, x, Qd, R1, h1, hx, fun d2 Γ2 v2 P2 H2 g2 R2 i2 h2 => hQ _ _ _ _ _ (g1.trans g2) R2 i2 h2⟩
  · exact ⟨true, i1.v_inv, hQ _ _ _ _ _ g1 R1 .v h1⟩
  · exact h1.elim
theorem up_notV {Q : VK} (h : up E W (dNotV ta) σ H Q) : tNotV (up E W ta) σ H Q := by
  obtain ⟨P, Γ, x, Qd, R, hT, hx, hQ⟩ := h
  refine ⟨P, Γ, x, _, R, hT, hx, fun d Γ1 v P1 H1 g1 R1 i1 h1 => ?_⟩
  split at h1
  · exact ⟨_, i1.v_inv, hQ _ _ _ _ _ g1 R1 .v h1⟩
  · exact h1.elim
theorem de_one {op : PySem.BoolOp} (ha : PE X a (up E W ta)) : PE X (.BoolOp op [a] pos) (up E W ta) := pe_one ha
theorem de_and (ha : PE X a (up E W ta)) (hb : PE X (.BoolOp .And (b :: rest) pos) (up E W tb)) : PE X (.BoolOp .And (a :: b :: rest) pos) (up E W (dAndV ta tb)) := impE (pe_and ha hb) fun _ _ _ h => up_andV h
theorem de_or (ha : PE X a (up E W ta)) (hb : PE X (.BoolOp .Or (b :: rest) pos) (up E W tb)) : PE X (.BoolOp .Or (a :: b :: rest) pos) (up E W (dOrV ta tb)) := impE (pe_or ha hb) fun _ _ _ h => up_orV h
theorem de_not (ha : PE X a (up E W ta)) : PE X (.UnaryOp .Not a pos) (up E W (dNotV ta)) := impE (pe_not ha) fun _ _ _ h => up_notV h
@[simp] def dIf (t : DT) (ta tb : DE) : DE := fun x Γ Q => t x Γ fun k Γ1 => if k = true then ta x Γ1 Q else tb x Γ1 Q
theorem up_if {Q : VK} (h : up E W (dIf tt ta tb) σ H Q) : tIf (upT E W tt) (up E W ta) (up E W tb) σ H Q := by
  obtain ⟨P, Γ, x, Qd, R, hT, hx, hQ⟩ := h
  refine ⟨P, Γ, x, _, R, hT, hx, fun k Γ1 P1 H1 g1 R1 h1 => ?_⟩
  cases k with
  | true => exact ⟨P1, Γ1, x, Qd, R1, h1, hx, fun d2 Γ2 v2 P2 H2 g2 R2 i2 h2 => hQ _ _ _ _ _ (g1.trans g2) R2 i2 h2⟩
  | false => exact ⟨P1, Γ1, x, Qd, R1, h1, hx, fun d2 Γ2 v2 P2 H2 g2 R2 i2 h2 => hQ _ _ _ _ _ (g1.trans g2) R2 i2 h2⟩
theorem de_if (hc : PT X c (upT E W tt)) (ha : PE X a (up E W ta)) (hb : PE X b (up E W tb)) : PE X (.IfExp c a b pos) (up E W (dIf tt ta tb)) := impE (pe_ifExp hc ha hb) fun _ _ _ h => up_if h
@[simp] def dNeg : R1D := fun d Q => match d with
  | .v (.int i) => Q (.v (.int (-i)))
  | _ => False
theorem lk_neg : Lk1 E (rU fun i => .int (-i)) dNeg := by
  intro P H σ Γ d1 v1 Q Qd R i1 hr hQ
  unfold dNeg at hr
  split at hr
  · rw [i1.v_inv]; exact ⟨_, rfl, hQ _ _ P H .refl R .v hr⟩
  · exact hr.elim
theorem de_neg (ha : PE X a (up E W ta)) : PE X (.UnaryOp .USub a pos) (up E W (dUn dNeg ta)) := de_un un_neg lk_neg ha

@[simp] def dNil : DA := fun x Γ Q => Q [] Γ
@[simp] def dCons (ta : DE) (tr : DA) : DA := fun x Γ Q => ta x Γ fun d Γ1 => tr x Γ1 fun ds Γ2 => Q (d :: ds) Γ2
variable {tas : DA} {tf : DF}
theorem up_cons {Q : List V → Hp → Prop} (h : upA E W (dCons ta tas) σ H Q) : tCons (up E W ta) (upA E W tas) σ H Q := by
  obtain ⟨P, Γ, x, Qd, R, hT, hx, hQ⟩ := h
  refine ⟨P, Γ, x, _, R, hT, hx, fun d Γ1 v P1 H1 g1 R1 i1 h1 => ?_⟩
  exact ⟨P1, Γ1, x, _, R1, h1, hx, fun ds Γ2 vs P2 H2 g2 R2 i2 h2 => hQ _ _ _ _ _ (g1.trans g2) R2 (.cons (i1.mono g2.p) i2) h2⟩
theorem da_nil : PA X [] (upA E W dNil) := impA pa_nil fun σ H Q h => by
  obtain ⟨P, Γ, x, Qd, R, hT, hx, hQ⟩ := h
  exact hQ _ _ _ _ _ .refl R .nil hT
theorem da_cons (ha : PE X e (up E W ta)) (hr : PA X es (upA E W tas)) (hs : starEach (e :: es) X.env = (false, eval e X.env) :: starEach es X.env := by rfl) : PA X (e :: es) (upA E W (dCons ta tas)) :=
  impA (pa_cons ha hr hs) fun _ _ _ h => up_cons h
@[simp] def dTup (t : DA) : DE := fun x Γ Q => t x Γ fun ds Γ1 => ds.length ≤ sizeLine ∧ Q (.tup ds) Γ1
@[simp] def dLst (t : DA) : DF := fun x Γ Q => t x Γ fun ds Γ1 => ds.length ≤ sizeLine ∧ Q ds Γ1
theorem de_tup {x1} (h : PA X es (upA E W tas)) : PE X (.Tuple es x1 pos) (up E W (dTup tas)) := impE (pe_tup h) fun σ H Q h => by
  obtain ⟨P, Γ, x, Qd, R, hT, hx, hQ⟩ := h
  refine ⟨P, Γ, x, _, R, hT, hx, fun ds Γ1 vs P1 H1 g1 R1 i1 h1 => ⟨by rw [i1.length]; exact h1.1, fun p hp => ?_⟩⟩
  exact hQ _ _ _ _ _ (g1.trans (Gr.alloc R1 _ hp)) (R1.alloc _ hp) (.tup SqT.upd (i1.mono (Gr.alloc (σ := σ) (o := .tup vs) R1 hp).p)) h1.2
theorem df_lst (h : PA X es (upA E W tas)) : PE X (.List es pos) (upF E W (dLst tas)) := impE (pe_lst h) fun σ H Q h => by
  obtain ⟨P, Γ, x, Qd, R, hT, hx, hQ⟩ := h
  refine ⟨P, Γ, x, _, R, hT, hx, fun ds Γ1 vs P1 H1 g1 R1 i1 h1 => ⟨by rw [i1.length]; exact h1.1, fun p hp => ?_⟩⟩
  exact hQ _ _ _ _ _ _ (g1.trans (Gr.fresh _ hp)) (R1.fresh _ hp) (R1.pnone hp) (none_of_dm g1.dm hp) (R1.h0none hp) upd_same i1 h1.2
@[simp] def dFz (t : DF) : DE := fun x Γ Q => t x Γ fun ds Γ1 => Q (.lst ds) Γ1
theorem up_fz {Q : VK} (h : up E W (dFz tf) σ H Q) : upF E W tf σ H Q := by
  obtain ⟨P, Γ, x, Qd, R, hT, hx, hQ⟩ := h
  refine ⟨P, Γ, x, _, R, hT, hx, fun ds Γ1 a vs P1 H1 g1 R1 hp hn h0 ha i1 h1 => ?_⟩
  have no : ¬ Own σ Γ1 a := fun z => by
    obtain ⟨i, s, e1, e2, e3⟩ := g1.o a z
    have q := R.sl i s _ e1 e3
    cases s with
    | no => cases e2
    | d _ => cases e2
    | m _ => obtain ⟨b, xs, e, _, n2, _⟩ := q; cases e; rw [hn] at n2; cases n2
    | md _ _ => obtain ⟨b, xs, e, _, n2, _⟩ := q; cases e; rw [hn] at n2; cases n2
    | mo _ _ _ _ _ => obtain ⟨xs, e, _, n2, _⟩ := q; cases e; rw [hn] at n2; cases n2
  have R2 := R1.know ha hp h0 no
  refine hQ (.lst ds) Γ1 (.ref a) _ H1 ⟨g1.p.trans (same_upd hp), fun b o q => ?_, g1.k, g1.dm, g1.o⟩ R2 (.lst upd_same (i1.mono (same_upd hp))) h1
  by_cases e : b = a
  · subst e; exact .inr (.inl hn)
  · rw [upd_ne e] at q; exact g1.n b o q
theorem de_fz (h : PE X e (upF E W tf)) : PE X e (up E W (dFz tf)) := impE h fun _ _ _ h => up_fz h
end
end DL

namespace DL
open PySem L2

section
variable {E : DC} {W : WX} {P P' H H' : Hp} {σ : L2.St} {Γ Γ' : List Sl} {X : Cx}
variable {a b c e o : Expr} {es : List Expr} {ta tb tc te : DE} {pos : Pos} {tas : DA}

theorem IsA.atI {K : PySem.W.Frag} {cl : Nat → Addr} {ds : List D} {xs : List V} {i : Int} {d : D} (h : IsA K cl P ds xs) (e : atI ds i = some d) : ∃ v, L2.atI xs i = some v ∧ Is K cl P d v := by
  unfold L2.atI at e ⊢
  rw [h.length]
  cases hi : ixN ds.length i with
  | none => rw [hi] at e; cases e
  | some j =>
    rw [hi] at e
    obtain ⟨v, h1, h2⟩ := h.get (i := j) (d := d) e
    exact ⟨v, h1, h2⟩
@[simp] def dIxR : R2D := fun d1 d2 Q => match d1, d2 with
  | .tup ds, .v (.int i) => match atI ds i with
    | some d => Q d
    | none => False
  | .lst ds, .v (.int i) => match atI ds i with
    | some d => Q d
    | none => False
  | .kst ds, .v (.int i) => match atI ds i with
    | some d => Q d
    | none => False
  | .v (.str z), .v (.int i) => z.length ≤ sizeLine ∧ match atI z.cps.toList i with
    | some c => Q (.v (.str ⟨#[c]⟩))
    | none => False
  | _, _ => False
theorem lk_ix : Lk2 E (rIx E.K) dIxR := by
  intro P H σ Γ d1 d2 v1 v2 Q Qd R i1 i2 hr hQ
  unfold dIxR at hr
  split at hr
  · obtain ⟨p, xs, rfl, hp, hx⟩ := i1.tup_inv
    rw [i2.v_inv]
    split at hr
    · rename_i e
      obtain ⟨v, h1, h2⟩ := hx.atI e
      exact .inr (.inl ⟨p, xs, _, v, rfl, rfl, sqT_mono R.sub hp, h1, hQ _ _ P H .refl R h2 hr⟩)
    · exact hr.elim
  · obtain ⟨p, xs, rfl, hp, hx⟩ := i1.lst_inv
    rw [i2.v_inv]
    split at hr
    · rename_i e
      obtain ⟨v, h1, h2⟩ := hx.atI e
      exact .inl ⟨p, xs, _, v, rfl, rfl, .of (R.sub _ _ hp), h1, hQ _ _ P H .refl R h2 hr⟩
    · exact hr.elim
  · obtain ⟨p, xs, rfl, hp, hx⟩ := i1.kst_inv
    rw [i2.v_inv]
    split at hr
    · rename_i e
      obtain ⟨v, h1, h2⟩ := hx.atI e
      exact .inl ⟨p, xs, _, v, rfl, rfl, R.sub.seq hp, h1, hQ _ _ P H .refl R h2 hr⟩
    · exact hr.elim
  · rw [i1.v_inv, i2.v_inv]
    obtain ⟨hz, hr⟩ := hr
    split at hr
    · rename_i e
      exact .inr (.inr ⟨_, _, _, rfl, rfl, hz, e, hQ _ _ P H .refl R .v hr⟩)
    · exact hr.elim
  · exact hr.elim
theorem ixR (hK : X.K = E.K) : IxR X (rIx E.K) := by rw [← hK]; exact ix_seq
theorem de_ix (hK : X.K = E.K) (ha : PE X a (up E W ta)) (hb : PE X b (up E W tb)) (hs : PlainIx b := by exact fun _ _ => rfl) : PE X (.Subscript a b pos) (up E W (dOp dIxR ta tb)) :=
  impE (pe_ix (ixR hK) ha hb hs) fun _ _ _ h => up_op lk_ix h

def cutD (xs : List D) (lo hi : Option Int) : List D := (xs.drop (HT.sIx xs.length 0 lo)).take (HT.sIx xs.length xs.length hi - HT.sIx xs.length 0 lo)
theorem IsA.cut {K : PySem.W.Frag} {cl : Nat → Addr} {ds : List D} {xs : List V} (h : IsA K cl P ds xs) (lo hi : Option Int) : IsA K cl P (cutD ds lo hi) (cutV xs lo hi) := by
  unfold cutD cutV
  rw [h.length]
  exact (h.drop _).take _
abbrev DO := XC → DS → (Option Int → DS → Prop) → Prop
def upO (E : DC) (W : WX) (T : DO) : TO := fun σ H Q => ∃ P Γ x Qd, Rep E P H σ Γ ∧ T x Γ Qd ∧ XL E W σ x ∧
  ∀ b Γ' P' H', Gr σ Γ P H Γ' P' H' → Rep E P' H' σ Γ' → Qd b Γ' → Q b H'
@[simp] def dNoPart : DO := fun x Γ Q => Q none Γ
@[simp] def dPart (t : DE) : DO := fun x Γ Q => t x Γ fun d Γ1 => match d with
  | .v (.int i) => Q (some i) Γ1
  | _ => False
theorem do_none : PO X none (upO E W dNoPart) := ⟨fun pins s σ H Q I h => by
  obtain ⟨P, Γ, x, Qd, R, hT, hx, hQ⟩ := h
  exact po_none.run pins s σ H Q I (hQ _ _ _ _ .refl R hT)⟩
theorem do_some (h : PE X e (up E W te)) : PO X (some e) (upO E W (dPart te)) := ⟨fun pins s σ H Q I hh => by
  refine (po_some h).run pins s σ H Q I ?_
  obtain ⟨P, Γ, x, Qd, R, hT, hx, hQ⟩ := hh
  refine ⟨P, Γ, x, _, R, hT, hx, fun d Γ1 v P1 H1 g1 R1 i1 h1 => ?_⟩
  split at h1
  · exact ⟨_, i1.v_inv, hQ _ _ _ _ g1 R1 h1⟩
  · exact h1.elim⟩
@[simp] def dSl (te : DE) (tl th : DO) : DE := fun x Γ Q => te x Γ fun d Γ1 => tl x Γ1 fun lo Γ2 => th x Γ2 fun hi Γ3 => match d with
  | .lst ds => Q (.lst (cutD ds lo hi)) Γ3
  | .kst ds => Q (.lst (cutD ds lo hi)) Γ3
  | .tup ds => Q (.tup (cutD ds lo hi)) Γ3
  | .v (.str z) => z.length ≤ sizeLine ∧ Q (.v (.str (cutS z lo hi))) Γ3
  | _ => False
theorem slR (hK : X.K = E.K) : SlR X (fun x lo hi H Q => rSlL E.K x lo hi H Q ∨ rSlA E.K x lo hi H Q ∨ ∃ z, x = .str z ∧ z.length ≤ sizeLine ∧ Q (.str (cutS z lo hi)) H) := by
  rw [← hK]
  exact sl_list.or (sl_tupA.or sl_str)
variable {lo hi : Option Expr} {tl th : DO} {p2 : Pos}
theorem de_slice (hK : X.K = E.K) (he : PE X e (up E W te)) (hl : PO X lo (upO E W tl)) (hh : PO X hi (upO E W th)) : PE X (.Subscript e (.Slice lo hi none p2) pos) (up E W (dSl te tl th)) :=
  impE (pe_slice (slR (E := E) hK) he hl hh) fun σ H Q h => by
    obtain ⟨P, Γ, x, Qd, R, hT, hx, hQ⟩ := h
    refine ⟨P, Γ, x, _, R, hT, hx, fun d Γ1 v P1 H1 g1 R1 i1 h1 => ?_⟩
    refine ⟨P1, Γ1, x, _, R1, h1, hx, fun l Γ2 P2 H2 g2 R2 h2 => ?_⟩
    refine ⟨P2, Γ2, x, _, R2, h2, hx, fun u Γ3 P3 H3 g3 R3 h3 => ?_⟩
    have i3 := i1.mono (g2.p.trans g3.p)
    have g := g1.trans (g2.trans g3)
    split at h3
    · obtain ⟨p, xs, rfl, hp, hx⟩ := i3.lst_inv
      exact .inl ⟨p, xs, rfl, .of (R3.sub _ _ hp), fun q hq => hQ _ _ _ _ _ (g.trans (Gr.alloc R3 _ hq)) (R3.alloc _ hq) (.lst upd_same ((hx.cut l u).mono (Gr.alloc (o := .lst (cutV xs l u)) R3 hq).p)) h3⟩
    · obtain ⟨p, xs, rfl, hp, hx⟩ := i3.kst_inv
      exact .inl ⟨p, xs, rfl, R3.sub.seq hp, fun q hq => hQ _ _ _ _ _ (g.trans (Gr.alloc R3 _ hq)) (R3.alloc _ hq) (.lst upd_same ((hx.cut l u).mono (Gr.alloc (o := .lst (cutV xs l u)) R3 hq).p)) h3⟩
    · obtain ⟨p, xs, rfl, hp, hx⟩ := i3.tup_inv
      refine .inr (.inl ⟨p, xs, rfl, sqT_mono R3.sub hp, fun z => ?_, fun _ q hq => ?_⟩)
      · refine hQ _ _ _ _ _ g R3 (.tup hp ?_) h3
        have := hx.cut l u
        unfold cutV at this
        rw [z.1, z.2] at this
        simpa using this
      · exact hQ _ _ _ _ _ (g.trans (Gr.alloc R3 _ hq)) (R3.alloc _ hq) (.tup SqT.upd ((hx.cut l u).mono (Gr.alloc (o := .tup (cutV xs l u)) R3 hq).p)) h3
    · rw [i3.v_inv]
      exact .inr (.inr ⟨_, rfl, h3.1, hQ _ _ _ _ _ g R3 .v h3.2⟩)
    · exact h3.elim

@[simp] def dCB (R : RND) (t : DA) : DE := fun x Γ Q => t x Γ fun ds Γ1 => R ds fun d => Q d Γ1
theorem up_cb {r : List V → Hp → VK → Prop} {R : RND} (L : LkN E r R) {Q : VK} (h : up E W (dCB R tas) σ H Q) : tCB r (upA E W tas) σ H Q := by
  obtain ⟨P, Γ, x, Qd, Rp, hT, hx, hQ⟩ := h
  refine ⟨P, Γ, x, _, Rp, hT, hx, fun ds Γ1 vs P1 H1 g1 R1 i1 h1 => ?_⟩
  exact L P1 H1 σ Γ1 ds vs Q _ R1 i1 h1 fun d v P3 H3 g3 R3 i3 h3 => hQ d Γ1 v P3 H3 (g1.trans g3) R3 i3 h3
@[simp] def dCF (R : List D → (List D → Prop) → Prop) (t : DA) : DF := fun x Γ Q => t x Γ fun ds Γ1 => R ds fun es => Q es Γ1
theorem up_cf {r : List V → Hp → VK → Prop} {R : List D → (List D → Prop) → Prop} (L : LkF E r R) {Q : VK} (h : upF E W (dCF R tas) σ H Q) : tCB r (upA E W tas) σ H Q := by
  obtain ⟨P, Γ, x, Qd, Rp, hT, hx, hQ⟩ := h
  refine ⟨P, Γ, x, _, Rp, hT, hx, fun ds Γ1 vs P1 H1 g1 R1 i1 h1 => ?_⟩
  exact L P1 H1 σ Γ1 ds vs Q _ R1 i1 h1 fun es p ws H3 g3 R3 hn hp i3 h3 => hQ es Γ1 p ws P1 H3 (g1.trans g3) R3 (R1.pnone hn) (none_of_dm g1.dm hn) (R1.h0none hn) hp i3 h3
variable {x : Str} {p : Pos} {id T : String} {r : List V → Hp → VK → Prop} {R : RND} {RF : List D → (List D → Prop) → Prop}
theorem de_callB (hc : CallR X (.builtin id) r) (L : LkN E r R) (hg : Gl X x) (hm : X.mg x = none) (hv : bootBuiltins x = some (.builtin id)) (ha : PA X (e :: es) (upA E W tas)) (hn : x ≠ "__name__" := by decide) (hdb : (x == ("__debug__" : Str)) = false := by decide)
    (he : starEach (e :: es) X.env = (false, eval e X.env) :: starEach es X.env := by rfl) (hpl : (backTo pos (starEach es X.env)).any (·.1) = false := by rfl) : PE X (.Call (.Name x p) (e :: es) [] pos) (up E W (dCB R tas)) :=
  impE (pe_callB hc hg hm hv ha hn hdb he hpl) fun _ _ _ h => up_cb L h
theorem de_callTy (hc : CallR X (.type T) r) (L : LkN E r R) (hg : Gl X x) (hm : X.mg x = none) (hv : bootBuiltins x = some (.type T)) (ha : PA X (e :: es) (upA E W tas)) (hn : x ≠ "__name__" := by decide) (hdb : (x == ("__debug__" : Str)) = false := by decide)
    (he : starEach (e :: es) X.env = (false, eval e X.env) :: starEach es X.env := by rfl) (hpl : (backTo pos (starEach es X.env)).any (·.1) = false := by rfl) : PE X (.Call (.Name x p) (e :: es) [] pos) (up E W (dCB R tas)) :=
  impE (pe_callTy hc hg hm hv ha hn hdb he hpl) fun _ _ _ h => up_cb L h
theorem df_callTy (hc : CallR X (.type T) r) (L : LkF E r RF) (hg : Gl X x) (hm : X.mg x = none) (hv : bootBuiltins x = some (.type T)) (ha : PA X (e :: es) (upA E W tas)) (hn : x ≠ "__name__" := by decide) (hdb : (x == ("__debug__" : Str)) = false := by decide)
    (he : starEach (e :: es) X.env = (false, eval e X.env) :: starEach es X.env := by rfl) (hpl : (backTo pos (starEach es X.env)).any (·.1) = false := by rfl) : PE X (.Call (.Name x p) (e :: es) [] pos) (upF E W (dCF RF tas)) :=
  impE (pe_callTy hc hg hm hv ha hn hdb he hpl) fun _ _ _ h => up_cf L h
theorem IsA.one {K : PySem.W.Frag} {cl : Nat → Addr} {d : D} {xs : List V} (h : IsA K cl P [d] xs) : ∃ x, xs = [x] ∧ Is K cl P d x := by
  obtain ⟨x, r, rfl, h1, h2⟩ := h.cons_inv
  rw [h2.nil_inv]; exact ⟨x, rfl, h1⟩
theorem IsA.two {K : PySem.W.Frag} {cl : Nat → Addr} {d d' : D} {xs : List V} (h : IsA K cl P [d, d'] xs) : ∃ x y, xs = [x, y] ∧ Is K cl P d x ∧ Is K cl P d' y := by
  obtain ⟨x, r, rfl, h1, h2⟩ := h.cons_inv
  obtain ⟨y, rfl, h3⟩ := h2.one
  exact ⟨x, y, rfl, h1, h3⟩
@[simp] def dLen : RND := fun ds Q => match ds with
  | [.lst xs] => Q (.v (.int xs.length))
  | [.kst xs] => Q (.v (.int xs.length))
  | [.tup xs] => Q (.v (.int xs.length))
  | [.v (.str z)] => z.length ≤ sizeLine ∧ Q (.v (.int z.length))
  | _ => False
theorem lk_len : LkN E (fun xs H Q => (∃ p ys, xs = [.ref p] ∧ (SqL E.K H p ys ∨ SqT E.K H p ys) ∧ Q (.int ys.length) H) ∨ ∃ z, xs = [.str z] ∧ z.length ≤ sizeLine ∧ Q (.int z.length) H) dLen := by
  intro P H σ Γ ds vs Q Qd R i hr hQ
  unfold dLen at hr
  split at hr
  · obtain ⟨x, rfl, i1⟩ := i.one
    obtain ⟨p, xs, rfl, hp, hx⟩ := i1.lst_inv
    exact .inl ⟨p, xs, rfl, .inl (.of (R.sub _ _ hp)), hQ _ _ P H .refl R .v (by rw [hx.length]; exact hr)⟩
  · obtain ⟨x, rfl, i1⟩ := i.one
    obtain ⟨p, xs, rfl, hp, hx⟩ := i1.kst_inv
    exact .inl ⟨p, xs, rfl, .inl (R.sub.seq hp), hQ _ _ P H .refl R .v (by rw [hx.length]; exact hr)⟩
  · obtain ⟨x, rfl, i1⟩ := i.one
    obtain ⟨p, xs, rfl, hp, hx⟩ := i1.tup_inv
    exact .inl ⟨p, xs, rfl, .inr (sqT_mono R.sub hp), hQ _ _ P H .refl R .v (by rw [hx.length]; exact hr)⟩
  · obtain ⟨x, rfl, i1⟩ := i.one
    rw [i1.v_inv]
    exact .inr ⟨_, rfl, hr.1, hQ _ _ P H .refl R .v hr.2⟩
  · exact hr.elim
theorem cLen (hK : X.K = E.K) : CallR X (.builtin "len") (fun xs H Q => (∃ p ys, xs = [.ref p] ∧ (SqL E.K H p ys ∨ SqT E.K H p ys) ∧ Q (.int ys.length) H) ∨ ∃ z, xs = [.str z] ∧ z.length ≤ sizeLine ∧ Q (.int z.length) H) := by
  rw [← hK]; exact call_len_seq.or call_len_str
@[simp] def dInt : RND := fun ds Q => match ds with
  | [.v (.int i)] => Q (.v (.int i))
  | [.v (.bl k)] => Q (.v (.int (if k then 1 else 0)))
  | _ => False
theorem lk_int : LkN E (fun xs H Q => (∃ i, xs = [.int i] ∧ Q (.int i) H) ∨ ∃ k, xs = [.bl k] ∧ Q (.int (if k then 1 else 0)) H) dInt := by
  intro P H σ Γ ds vs Q Qd R i hr hQ
  unfold dInt at hr
  split at hr
  · obtain ⟨x, rfl, i1⟩ := i.one; rw [i1.v_inv]; exact .inl ⟨_, rfl, hQ _ _ P H .refl R .v hr⟩
  · obtain ⟨x, rfl, i1⟩ := i.one; rw [i1.v_inv]; exact .inr ⟨_, rfl, hQ _ _ P H .refl R .v hr⟩
  · exact hr.elim
@[simp] def dAbs : RND := fun ds Q => match ds with
  | [.v (.int i)] => Q (.v (.int (if i < 0 then -i else i)))
  | _ => False
theorem lk_abs : LkN E (fun xs H Q => ∃ i, xs = [.int i] ∧ Q (.int (if i < 0 then -i else i)) H) dAbs := by
  intro P H σ Γ ds vs Q Qd R i hr hQ
  unfold dAbs at hr
  split at hr
  · obtain ⟨x, rfl, i1⟩ := i.one; rw [i1.v_inv]; exact ⟨_, rfl, hQ _ _ P H .refl R .v hr⟩
  · exact hr.elim
@[simp] def dDivmod : RND := fun ds Q => match ds with
  | [.v (.int i), .v (.int j)] => CDiv i j ∧ Q (.tup [.v (.int (i / j)), .v (.int (i % j))])
  | _ => False
theorem lk_divmod : LkN E (fun xs H Q => ∃ i j, xs = [.int i, .int j] ∧ CDiv i j ∧ ∀ p, H p = none → Q (.ref p) (upd H p (.tup [.int (i / j), .int (i % j)]))) dDivmod := by
  intro P H σ Γ ds vs Q Qd R i hr hQ
  unfold dDivmod at hr
  split at hr
  · obtain ⟨x, y, rfl, i1, i2⟩ := i.two
    rw [i1.v_inv, i2.v_inv]
    exact ⟨_, _, rfl, hr.1, fun p hp => hQ _ _ _ _ (Gr.alloc R _ hp) (R.alloc _ hp) (.tup SqT.upd (.cons .v (.cons .v .nil))) hr.2⟩
  · exact hr.elim
@[simp] def dMax2 : RND := fun ds Q => match ds with
  | [.v (.int i), .v (.int j)] => Q (.v (.int (if j > i then j else i)))
  | _ => False
theorem lk_max2 : LkN E (fun xs H Q => ∃ i j, xs = [.int i, .int j] ∧ Q (.int (if j > i then j else i)) H) dMax2 := by
  intro P H σ Γ ds vs Q Qd R i hr hQ
  unfold dMax2 at hr
  split at hr
  · obtain ⟨x, y, rfl, i1, i2⟩ := i.two
    rw [i1.v_inv, i2.v_inv]
    exact ⟨_, _, rfl, hQ _ _ P H .refl R .v hr⟩
  · exact hr.elim
@[simp] def dMin2 : RND := fun ds Q => match ds with
  | [.v (.int i), .v (.int j)] => Q (.v (.int (if j < i then j else i)))
  | _ => False
theorem lk_min2 : LkN E (fun xs H Q => ∃ i j, xs = [.int i, .int j] ∧ Q (.int (if j < i then j else i)) H) dMin2 := by
  intro P H σ Γ ds vs Q Qd R i hr hQ
  unfold dMin2 at hr
  split at hr
  · obtain ⟨x, y, rfl, i1, i2⟩ := i.two
    rw [i1.v_inv, i2.v_inv]
    exact ⟨_, _, rfl, hQ _ _ P H .refl R .v hr⟩
  · exact hr.elim
def intsD : List D → Option (List Int)
  | [] => some []
  | .v (.int i) :: ds => (intsD ds).map (i :: ·)
  | _ :: _ => none
def blsD : List D → Option (List Bool)
  | [] => some []
  | .v (.bl i) :: ds => (blsD ds).map (i :: ·)
  | _ :: _ => none
def strsD : List D → Option (List Str)
  | [] => some []
  | .v (.str i) :: ds => (strsD ds).map (i :: ·)
  | _ :: _ => none
theorem intsD_eq : ∀ {ds : List D} {xs : List Int}, intsD ds = some xs → ds = (xs.map V.int).map D.v := by
  intro ds
  induction ds with
  | nil => intro xs h; simp only [intsD, Option.some.injEq] at h; subst h; rfl
  | cons d ds ih =>
    intro xs h
    unfold intsD at h
    split at h
    · rename_i e; cases e
    · rename_i e; cases e
      simp only [Option.map_eq_some_iff] at h
      obtain ⟨r, h1, rfl⟩ := h
      rw [ih h1]; rfl
    · cases h
theorem blsD_eq : ∀ {ds : List D} {xs : List Bool}, blsD ds = some xs → ds = (xs.map V.bl).map D.v := by
  intro ds
  induction ds with
  | nil => intro xs h; simp only [blsD, Option.some.injEq] at h; subst h; rfl
  | cons d ds ih =>
    intro xs h
    unfold blsD at h
    split at h
    · rename_i e; cases e
    · rename_i e; cases e
      simp only [Option.map_eq_some_iff] at h
      obtain ⟨r, h1, rfl⟩ := h
      rw [ih h1]; rfl
    · cases h
theorem strsD_eq : ∀ {ds : List D} {xs : List Str}, strsD ds = some xs → ds = (xs.map V.str).map D.v := by
  intro ds
  induction ds with
  | nil => intro xs h; simp only [strsD, Option.some.injEq] at h; subst h; rfl
  | cons d ds ih =>
    intro xs h
    unfold strsD at h
    split at h
    · rename_i e; cases e
    · rename_i e; cases e
      simp only [Option.map_eq_some_iff] at h
      obtain ⟨r, h1, rfl⟩ := h
      rw [ih h1]; rfl
    · cases h
@[simp] def dMaxL : RND := fun ds Q => match ds with
  | [.lst xs] => match intsD xs with
    | some ns => 0 < ns.length ∧ ∀ m, m ∈ ns → (∀ y, y ∈ ns → y ≤ m) → Q (.v (.int m))
    | none => False
  | _ => False
theorem lk_maxL : LkN E (rMax E.K) dMaxL := by
  intro P H σ Γ ds vs Q Qd R i hr hQ
  unfold dMaxL at hr
  split at hr
  · obtain ⟨x, rfl, i1⟩ := i.one
    obtain ⟨p, xs, rfl, hp, hx⟩ := i1.lst_inv
    split at hr
    · rename_i ns e
      rw [intsD_eq e] at hx
      obtain rfl := hx.atoms
      exact ⟨p, ns, rfl, .of (R.sub _ _ hp), hr.1, fun m h1 h2 => hQ _ _ P H .refl R .v (hr.2 m h1 h2)⟩
    · exact hr.elim
  · exact hr.elim
@[simp] def dAll : RND := fun ds Q => match ds with
  | [.lst xs] => match blsD xs with
    | some ns => Q (.v (.bl (ns.all _root_.id)))
    | none => False
  | _ => False
theorem lk_all : LkN E (rAll E.K) dAll := by
  intro P H σ Γ ds vs Q Qd R i hr hQ
  unfold dAll at hr
  split at hr
  · obtain ⟨x, rfl, i1⟩ := i.one
    obtain ⟨p, xs, rfl, hp, hx⟩ := i1.lst_inv
    split at hr
    · rename_i ns e
      rw [blsD_eq e] at hx
      obtain rfl := hx.atoms
      exact ⟨p, ns, rfl, .of (R.sub _ _ hp), hQ _ _ P H .refl R .v hr⟩
    · exact hr.elim
  · exact hr.elim
@[simp] def dTuple : RND := fun ds Q => match ds with
  | [.lst xs] => Q (.tup xs)
  | [.kst xs] => Q (.tup xs)
  | [.tup xs] => Q (.tup xs)
  | _ => False
theorem lk_tuple : LkN E (fun xs H Q => ∃ p ys, xs = [.ref p] ∧ ((SqL E.K H p ys ∧ ∀ l, H l = none → Q (.ref l) (upd H l (.tup ys))) ∨ (SqT E.K H p ys ∧ Q (.ref p) H))) dTuple := by
  intro P H σ Γ ds vs Q Qd R i hr hQ
  unfold dTuple at hr
  split at hr
  · obtain ⟨x, rfl, i1⟩ := i.one
    obtain ⟨p, xs, rfl, hp, hx⟩ := i1.lst_inv
    exact ⟨p, xs, rfl, .inl ⟨.of (R.sub _ _ hp), fun l hl => hQ _ _ _ _ (Gr.alloc R _ hl) (R.alloc _ hl) (.tup SqT.upd (hx.mono (Gr.alloc (σ := σ) (o := .tup xs) R hl).p)) hr⟩⟩
  · obtain ⟨x, rfl, i1⟩ := i.one
    obtain ⟨p, xs, rfl, hp, hx⟩ := i1.kst_inv
    exact ⟨p, xs, rfl, .inl ⟨R.sub.seq hp, fun l hl => hQ _ _ _ _ (Gr.alloc R _ hl) (R.alloc _ hl) (.tup SqT.upd (hx.mono (Gr.alloc (σ := σ) (o := .tup xs) R hl).p)) hr⟩⟩
  · obtain ⟨x, rfl, i1⟩ := i.one
    obtain ⟨p, xs, rfl, hp, hx⟩ := i1.tup_inv
    exact ⟨p, xs, rfl, .inr ⟨sqT_mono R.sub hp, hQ _ _ P H .refl R (.tup hp hx) hr⟩⟩
  · exact hr.elim
@[simp] def dListOf : List D → (List D → Prop) → Prop := fun ds Q => match ds with
  | [.lst xs] => Q xs
  | [.kst xs] => Q xs
  | [.tup xs] => Q xs
  | _ => False
theorem lk_listOf : LkF E (fun xs H Q => ∃ p ys, xs = [.ref p] ∧ (SqL E.K H p ys ∨ SqT E.K H p ys) ∧ ∀ l, H l = none → Q (.ref l) (upd H l (.lst ys))) dListOf := by
  intro P H σ Γ ds vs Q Qd R i hr hQ
  unfold dListOf at hr
  split at hr
  · obtain ⟨x, rfl, i1⟩ := i.one
    obtain ⟨p, xs, rfl, hp, hx⟩ := i1.lst_inv
    exact ⟨p, xs, rfl, .inl (.of (R.sub _ _ hp)), fun l hl => hQ _ _ _ _ (Gr.fresh _ hl) (R.fresh _ hl) hl upd_same hx hr⟩
  · obtain ⟨x, rfl, i1⟩ := i.one
    obtain ⟨p, xs, rfl, hp, hx⟩ := i1.kst_inv
    exact ⟨p, xs, rfl, .inl (R.sub.seq hp), fun l hl => hQ _ _ _ _ (Gr.fresh _ hl) (R.fresh _ hl) hl upd_same hx hr⟩
  · obtain ⟨x, rfl, i1⟩ := i.one
    obtain ⟨p, xs, rfl, hp, hx⟩ := i1.tup_inv
    exact ⟨p, xs, rfl, .inr (sqT_mono R.sub hp), fun l hl => hQ _ _ _ _ (Gr.fresh _ hl) (R.fresh _ hl) hl upd_same hx hr⟩
  · exact hr.elim
end
end DL

namespace DL
open PySem L2 PySem.Calls

structure FunX (K : PySem.W.Frag) (x qual : Str) (st : Stmt) (f : Addr) (fd : FuncData) : Prop where
  ex : ∃ (oc : Value) (od : Option Addr) (dV kV doc pm : Value) (an : Option Addr) (cdv ct : Value) (osl : Array (Option Value)),
    fd = PySem.W.fnOf x qual (defArgs st) (defBody st) (defScope st) dV kV doc pm an cdv ct ∧ K.lookup f = some ⟨oc, od, .func fd, osl⟩ ∧ PySem.W.codeIn K cdv qual = true
structure FnG (P : Program) (w : World) (K : PySem.W.Frag) (mg : Str → Option Value) (base : Heap) (k : Nat) (f : Addr) (fd : FuncData) (ps : List Str) (sp : Sp) : Prop where
  len : ∀ vs H Q E, sp vs H Q E → vs.length = ps.length
  go : ∀ (A : Around) (l : List Env) (s : Shared) (H : Hp) (args : Args) (us : List Value) (vs : List V) (Q : VK) (E : XK), A.guards = some [] → Room k A → Env0 P w K mg base A l s H → BindsTo s fd args (ps.zip us) → Vals vs us → sp vs H Q E →
    codeAny (model P w) A (.call (.ref f) args) (CR (L2.CX P w) l P w H s Q E) s
section
variable {P : Program} {w : World} {K : PySem.W.Frag} {mg : Str → Option Value} {base : Heap} {f : Addr} {fd : FuncData} {ps : List Str} {sp sp' : Sp} {k j : Nat}
theorem FnG.mono (F : FnG P w K mg base j f fd ps sp) (h : j ≤ k) : FnG P w K mg base k f fd ps sp := ⟨F.len, fun A l s H args us vs Q E g hr => F.go A l s H args us vs Q E g (hr.mono h)⟩
theorem FnG.imp (F : FnG P w K mg base k f fd ps sp) (h : ∀ vs H Q E, sp' vs H Q E → sp vs H Q E) : FnG P w K mg base k f fd ps sp' :=
  ⟨fun vs H Q E q => F.len vs H Q E (h _ _ _ _ q), fun A l s H args us vs Q E g hr he hb hv hs => F.go A l s H args us vs Q E g hr he hb hv (h _ _ _ _ hs)⟩
theorem FnG.of (F : FnOk P w K mg base (L2.CX P w) k f fd ps sp) : FnG P w K mg base k f fd ps sp := ⟨F.len, fun A l s H args us vs Q E _ => F.run A l s H args us vs Q E⟩
theorem FnG.body {x qual : Str} {st : Stmt} {N : List Str} (F : FunX K x qual st f fd) (S : FnScope N ps (defScope st)) (len : ∀ vs H Q E, sp vs H Q E → vs.length = ps.length)
    (hbody : ∀ (cdv : Value) (A : Around) (l : List Env) (s : Shared) (H : Hp) (vs : List V) (Q : VK) (E : XK), A.guards = some [] → Room k (A.deeper (PyProof.Rows.envOfC qual (defScope st) s.heap.objs.size f cdv)) → sp vs H Q E →
      ∃ t, PSs (cxOf (L2.CX P w) P w K mg base N qual (defScope st) f cdv A l s H E) (defBody st) t ∧ t { nx := fun _ H' => Q .non H', rt := Q } (L2.start N vs) H) : FnG P w K mg base (k + 1) f fd ps sp := by
  obtain ⟨oc, od, dV, kV, doc, pm, an, cdv, ct, osl, rfl, lk, hcd⟩ := F.ex
  refine ⟨len, fun A l s H args us vs Q E g hr e0 hb r hsp => ?_⟩
  have KX : K.In s.heap := e0.mod.kin.keeps fun b o q => (e0.bs b o q).1
  have nl : s.heap.NoLimit := e0.mod.nolimit.keeps fun b o q => (e0.bs b o q).1
  refine codeAny_call_function hr.depth (KX f _ lk) rfl S.co S.gen rfl (PySem.W.codeRec_of KX hcd) (hb _ _ _ _ ?_)
  refine wpAny_newFunctionEnv_cells S.kind (fun y hy => ?_) fun env he s1 inC => ?_
  · obtain ⟨n, v⟩ := y
    rcases S.par n (List.of_mem_zip hy).1 with q | q
    · exact Or.inl q
    · exact Or.inr ⟨q, PySem.W.cellsFrom_some _ _ _ (Or.inl q)⟩
  · subst he
    obtain ⟨t, ht, hq⟩ := hbody cdv A l s H vs Q E g (hr.deeper _) hsp
    refine ⟨nl.keeps inC.toInCall.keep, codeAny_func (wpAny_mono (ht.run [] s1 (L2.start N vs) H _ (inv_start S hr.hd e0 (len _ _ _ _ hsp) r inC) hq) (fun fl s' hs => ?_) fun _ _ hs => hs)⟩
    match fl, hs with
    | .ret u, ⟨v, σ', H', J, rv, q⟩ => exact ⟨v, H', J.os, J.bare, J.base, J.hok, rv, q⟩
    | .next, ⟨σ', H', J, q⟩ => exact ⟨.non, H', J.os, J.bare, J.base, J.hok, rfl, q⟩
    | .brk, ⟨_, _, _, q⟩ => exact q.elim
    | .cont, ⟨_, _, _, q⟩ => exact q.elim
end
section
variable {X : Cx} {pins : List (Addr × Obj)} {σ : L2.St} {H : Hp} {s : Shared} {k : Nat} {f C : Addr} {fd : FuncData} {ps ks : List Str} {sp : Sp}
inductive Src where
  | p (i : Nat)
  | k (i : Nat)
  | n
@[simp] def pick {α : Type} (z : α) (src : List Src) (us ws : List α) : List α := src.map fun c => match c with
  | .p i => us.getD i z
  | .k i => ws.getD i z
  | .n => z
theorem Vals.getD : ∀ {vs : List V} {us : List Value} (i : Nat), Vals vs us → RelV (vs.getD i .non) (us.getD i .none) := fun {vs us} i r => by
  rw [List.getD_eq_getElem?_getD, List.getD_eq_getElem?_getD]
  cases h : vs[i]? with
  | none => rw [r.none_of h]; rfl
  | some v =>
    obtain ⟨u, e, q⟩ := r.get h
    rw [e]; exact q
theorem Vals.pick {vs zs : List V} {us ws : List Value} (r : Vals vs us) (rz : Vals zs ws) : ∀ src : List Src, Vals (DL.pick .non src vs zs) (DL.pick .none src us ws)
  | [] => .nil
  | .p i :: src => .cons (Vals.getD i r) (Vals.pick r rz src)
  | .k i :: src => .cons (Vals.getD i rz) (Vals.pick r rz src)
  | .n :: src => .cons rfl (Vals.pick r rz src)
@[simp] def pickD (src : List Src) (ds es : List D) : List D := pick (.v .non) src ds es
theorem IsA.getD {K : PySem.W.Frag} {cl : Nat → Addr} {P : Hp} {ds : List D} {vs : List V} (h : IsA K cl P ds vs) (i : Nat) : Is K cl P (ds.getD i (.v .non)) (vs.getD i .non) := by
  rw [List.getD_eq_getElem?_getD, List.getD_eq_getElem?_getD]
  cases e : ds[i]? with
  | none =>
    have hl := h.length
    have := List.getElem?_eq_none_iff.mp e
    rw [List.getElem?_eq_none (by omega)]
    exact .v
  | some d =>
    obtain ⟨v, e1, q⟩ := h.get e
    rw [e1]; exact q
theorem IsA.pick {K : PySem.W.Frag} {cl : Nat → Addr} {P : Hp} {ds es : List D} {vs zs : List V} (h : IsA K cl P ds vs) (h' : IsA K cl P es zs) : ∀ src : List Src, IsA K cl P (pickD src ds es) (DL.pick .non src vs zs)
  | [] => .nil
  | .p i :: src => .cons (h.getD i) (h.pick h' src)
  | .k i :: src => .cons (h'.getD i) (h.pick h' src)
  | .n :: src => .cons .v (h.pick h' src)
structure Bnd (K : PySem.W.Frag) (fd : FuncData) (ps : List Str) (m n : Nat) (ks : List Str) (src : List Src) : Prop where
  to : ∀ (s : Shared) (fs us ws : List Value), K.In s.heap → fs.length = m → us.length = n → ws.length = ks.length → BindsTo s fd ⟨fs ++ us, ks.zip ws⟩ (ps.zip (fs ++ pick .none src us ws))
variable {m n : Nat} {src : List Src}
theorem call_g {Q : VK} {fs us ws : List Value} {gs vs zs : List V} {E : XK} (hG : X.A.guards = some []) (F : FnG X.prog X.w X.K X.mg X.base k f fd ps sp) (hr : Room k X.A) (hb : Bnd X.K fd ps m n ks src) (hx : PassesAt (L2.CX X.prog X.w) X σ E) (I : Inv X pins σ H s) (rf : Vals gs fs) (r : Vals vs us) (rz : Vals zs ws)
    (l0 : gs.length = m) (l1 : vs.length = n) (l2 : zs.length = ks.length) (h : sp (gs ++ pick .non src vs zs) H Q E) : wpAny (model X.prog X.w) X.A (call (.ref f) (fs ++ us) (ks.zip ws)) (EP X pins σ Q) X.xe s :=
  wpAny_call (codeAny_mono (F.go X.A X.stack s H ⟨fs ++ us, ks.zip ws⟩ _ _ Q E hG hr I.env0 (hb.to s fs us ws I.kIn (rf.length.symm.trans l0) (r.length.symm.trans l1) (rz.length.symm.trans l2)) (rf.append (Vals.pick r rz src)) h) fun c s' hq => by
    match c, hq with
    | .error e, q => exact hx pins H s e s' I q
    | .ok (.ret u), q => exact I.after q
    | .ok .next, q => exact (show False from q).elim
    | .ok .brk, q => exact (show False from q).elim
    | .ok .cont, q => exact (show False from q).elim)
theorem code_g1 {Q : VK} {fs : List Value} {gs : List V} {A : Around} {R : Result → Shared → Prop} (hG : A.guards = some []) (hf : A.frames = some X.stack) (F : FnG X.prog X.w X.K X.mg X.base k f fd ps sp) (hr : Room k A) (hb : Bnd X.K fd ps m 0 [] []) (I : Inv X pins σ H s) (rf : Vals gs fs)
    (l0 : gs.length = m) (h : sp gs H Q E0) (hQ : ∀ u s', EP X pins σ Q u s' → R (.ok (.ret u)) s') : codeAny (model X.prog X.w) A (.call (.ref f) ⟨fs, []⟩) R s := by
  have e0 := I.env0
  have b := hb.to s fs [] [] I.kIn (rf.length.symm.trans l0) rfl rfl
  rw [List.append_nil] at b
  have b' : BindsTo s fd ⟨fs, []⟩ (ps.zip fs) := by
    have z : fs ++ pick Value.none [] [] [] = fs := List.append_nil fs
    rw [z] at b; exact b
  refine codeAny_mono (F.go A X.stack s H ⟨fs, []⟩ fs gs Q E0 hG hr ⟨hf, e0.mod, e0.bs, e0.bsz, e0.funs, e0.frf, e0.hok, e0.bare⟩ b' rf h) fun c s' hq => ?_
  match c, hq with
  | .error e, q =>
    obtain ⟨_, _, _, _, _, _, _, _, _, _, _, _, z⟩ := q
    exact z.elim
  | .ok (.ret u), q => exact hQ u s' (I.after q)
  | .ok .next, q => exact (show False from q).elim
  | .ok .brk, q => exact (show False from q).elim
  | .ok .cont, q => exact (show False from q).elim
theorem call_g1 {Q : VK} {fs : List Value} {gs : List V} {A : Around} {Q' : Value → Shared → Prop} {E' : Value → Shared → Prop} (hG : A.guards = some []) (hf : A.frames = some X.stack) (F : FnG X.prog X.w X.K X.mg X.base k f fd ps sp) (hr : Room k A) (hb : Bnd X.K fd ps m 0 [] []) (I : Inv X pins σ H s) (rf : Vals gs fs)
    (l0 : gs.length = m) (h : sp gs H Q E0) (hQ : ∀ u s', EP X pins σ Q u s' → Q' u s') : wpAny (model X.prog X.w) A (call (.ref f) fs) Q' E' s :=
  wpAny_call (code_g1 hG hf F hr hb I rf l0 h fun u s' q => hQ u s' q)
theorem make_g {Q : VK} {us ws : List Value} {vs zs : List V} {E : XK} (hG : X.A.guards = some []) (M : Mk X.K C f) (F : FnG X.prog X.w X.K X.mg X.base k f fd ps sp) (hr : Room (k + 1) X.A) (hb : Bnd X.K fd ps 1 n ks src) (hx : PassesAt (L2.CX X.prog X.w) X σ E) (I : Inv X pins σ H s) (r : Vals vs us) (rz : Vals zs ws)
    (l1 : vs.length = n) (l2 : zs.length = ks.length)
    (h : ∀ x dx, H x = none → H dx = none → dx ≠ x → sp (.ref x :: pick .non src vs zs) (upd (upd H dx (.own x)) x (.ins C dx [])) (fun v H2 => v = .non ∧ Q (.ref x) H2) E) : wpAny (model X.prog X.w) X.A (call (.ref C) us (ks.zip ws)) (EP X pins σ Q) X.xe s := by
  have hq := h (s.heap.objs.size + 1) s.heap.objs.size (I.hok.fresh (Nat.le_succ _)) (I.hok.fresh (Nat.le_refl _)) (Nat.ne_of_lt (Nat.lt_succ_self _))
  have J := Inv.made (C := C) I
  refine wpAny_call (make_map (f := f) I.kIn M.makes M.init (beq_iff_eq.mp M.fn) (codeAny_mono (F.go _ X.stack _ _ ⟨Value.ref (s.heap.objs.size + 1) :: us, ks.zip ws⟩ (Value.ref (s.heap.objs.size + 1) :: pick .none src us ws) _ _ E ?_ (hr.make C us (ks.zip ws))
    (J.env0.make C us (ks.zip ws)) (hb.to _ [_] us ws J.kIn rfl (r.length.symm.trans l1) (rz.length.symm.trans l2)) (show Vals (V.ref (s.heap.objs.size + 1) :: pick .non src vs zs) (Value.ref (s.heap.objs.size + 1) :: pick .none src us ws) from .cons rfl (Vals.pick r rz src)) hq) fun c s' hc => ?_))
  · show pushGuards (Code.guards (.builtin "type.__call__" ⟨.ref C :: us, ks.zip ws⟩)) X.A.guards = some []
    rw [hG, show Code.guards (.builtin "type.__call__" ⟨.ref C :: us, ks.zip ws⟩) = [] from rfl]
    rfl
  · match c, hc with
    | .error e, q => exact hx pins _ _ e s' J q
    | .ok (.ret u), q =>
      obtain ⟨v, H', J', rv, rfl, q⟩ := J.after q
      exact ⟨rv, ⟨V.ref (s.heap.objs.size + 1), H', J', rfl, q⟩⟩
    | .ok .next, q => exact (show False from q).elim
    | .ok .brk, q => exact (show False from q).elim
    | .ok .cont, q => exact (show False from q).elim
variable {x mm : Str} {p pos apos : Pos} {e o : Expr} {es : List Expr} {kws : List Keyword} {ta : TE} {t tk : TA} {W : WX}
def tGf (n m : Nat) (sp : Sp) (W : WX) (src : List Src) (t tk : TA) : TE := fun σ H Q => t σ H fun vs H1 => tk σ H1 fun zs H2 => vs.length = n ∧ zs.length = m ∧ sp (pick .non src vs zs) H2 Q (WE W σ)
def tGm (C : Addr) (n m : Nat) (sp : Sp) (W : WX) (src : List Src) (t tk : TA) : TE := fun σ H Q => t σ H fun vs H1 => tk σ H1 fun zs H2 => vs.length = n ∧ zs.length = m ∧
  ∀ x dx, H2 x = none → H2 dx = none → dx ≠ x → sp (.ref x :: pick .non src vs zs) (upd (upd H2 dx (.own x)) x (.ins C dx [])) (fun v H3 => v = .non ∧ Q (.ref x) H3) (WE W σ)
def tGo (C : Addr) (mm : Str) (n m : Nat) (sp : Sp) (W : WX) (src : List Src) (ta : TE) (t tk : TA) : TE := fun σ H Q => ta σ H fun x H0 => ∃ a dx fs, x = .ref a ∧ H0 a = some (.ins C dx fs) ∧ fs.lookup mm = none ∧
  t σ H0 fun vs H1 => tk σ H1 fun zs H2 => vs.length = n ∧ zs.length = m ∧ sp (x :: pick .non src vs zs) H2 Q (WE W σ)
theorem pg_call (hG : X.A.guards = some []) (F : FnG X.prog X.w X.K X.mg X.base k f fd ps sp) (hr : Room k X.A) (hg : Gl X x) (hm : X.mg x = some (.ref f)) (hk : PySem.W.keepIn X.K (.ref f) = true) (hb : Bnd X.K fd ps 0 n ks src) (tkx : Takes X W)
    (ha : PA X (e :: es) t) (hkw : PK X kws tk) (hall : (backToKw pos (keywordEach kws X.env)).all (·.1.isSome) = true := by rfl) (hks : (backToKw pos (keywordEach kws X.env)).filterMap (·.1) = ks := by rfl)
    (hdb : (x == ("__debug__" : Str)) = false := by decide) (he : starEach (e :: es) X.env = (false, eval e X.env) :: starEach es X.env := by rfl)
    (hpl : ((backTo pos (starEach (e :: es) X.env)).any (·.1) || (backToKw pos (keywordEach kws X.env)).any (·.1.isNone)) = false := by rfl) :
    PE X (.Call (.Name x p) (e :: es) kws pos) (tGf n ks.length sp W src t tk) := ⟨fun pins s σ H Q I h =>
  wpAny_Call_Name_kw (ld_glob I hg hm (PySem.W.callWith_KW (h₀ := X.base) I.ok.mod.kin hk hall (thn (ha.run pos pins s σ H _ I h) fun us s1 ⟨vs, H1, I1, r, q⟩ => thn (hkw.run pos pins s1 σ H1 _ I1 q) fun ws s2 ⟨zs, H2, I2, rz, l1, l2, q2⟩ => ⟨I2.kIn, by
    rw [hks]; exact call_g (fs := []) (gs := []) hG F hr hb (passAt tkx σ) I2 .nil r rz rfl l1 l2 q2⟩) hpl he) hdb)⟩
theorem pg_call0 (hG : X.A.guards = some []) (F : FnG X.prog X.w X.K X.mg X.base k f fd ps sp) (hr : Room k X.A) (hg : Gl X x) (hm : X.mg x = some (.ref f)) (hk : PySem.W.keepIn X.K (.ref f) = true) (hb : Bnd X.K fd ps 0 0 ks src) (tkx : Takes X W)
    (hkw : PK X kws tk) (hall : (backToKw pos (keywordEach kws X.env)).all (·.1.isSome) = true := by rfl) (hks : (backToKw pos (keywordEach kws X.env)).filterMap (·.1) = ks := by rfl)
    (hdb : (x == ("__debug__" : Str)) = false := by decide) (hpl : ((backTo pos (starEach [] X.env)).any (·.1) || (backToKw pos (keywordEach kws X.env)).any (·.1.isNone)) = false := by rfl) :
    PE X (.Call (.Name x p) [] kws pos) (tGf 0 ks.length sp W src tNil tk) := ⟨fun pins s σ H Q I h =>
  wpAny_Call_Name_kw (ld_glob I hg hm (PySem.W.callWith_KW0 (h₀ := X.base) I.ok.mod.kin hk hall (thn (hkw.run pos pins s σ H _ I h) fun ws s2 ⟨zs, H2, I2, rz, l1, l2, q2⟩ => ⟨I2.kIn, by
    rw [hks]; exact call_g (fs := []) (gs := []) (us := []) (vs := []) hG F hr hb (passAt tkx σ) I2 .nil .nil rz rfl rfl l2 q2⟩) hpl) hdb)⟩
theorem pg_make (hG : X.A.guards = some []) (M : Mk X.K C f) (F : FnG X.prog X.w X.K X.mg X.base k f fd ps sp) (hr : Room (k + 1) X.A) (hg : Gl X x) (hm : X.mg x = some (.ref C)) (hb : Bnd X.K fd ps 1 n ks src) (tkx : Takes X W)
    (ha : PA X (e :: es) t) (hkw : PK X kws tk) (hall : (backToKw pos (keywordEach kws X.env)).all (·.1.isSome) = true := by rfl) (hks : (backToKw pos (keywordEach kws X.env)).filterMap (·.1) = ks := by rfl)
    (hdb : (x == ("__debug__" : Str)) = false := by decide) (he : starEach (e :: es) X.env = (false, eval e X.env) :: starEach es X.env := by rfl)
    (hpl : ((backTo pos (starEach (e :: es) X.env)).any (·.1) || (backToKw pos (keywordEach kws X.env)).any (·.1.isNone)) = false := by rfl) :
    PE X (.Call (.Name x p) (e :: es) kws pos) (tGm C n ks.length sp W src t tk) := ⟨fun pins s σ H Q I h =>
  wpAny_Call_Name_kw (ld_glob I hg hm (PySem.W.callWith_KW (h₀ := X.base) I.ok.mod.kin M.kp hall (thn (ha.run pos pins s σ H _ I h) fun us s1 ⟨vs, H1, I1, r, q⟩ => thn (hkw.run pos pins s1 σ H1 _ I1 q) fun ws s2 ⟨zs, H2, I2, rz, l1, l2, q2⟩ => ⟨I2.kIn, by
    rw [hks]; exact make_g hG M F hr hb (passAt tkx σ) I2 r rz l1 l2 q2⟩) hpl he) hdb)⟩
theorem pg_make0 (hG : X.A.guards = some []) (M : Mk X.K C f) (F : FnG X.prog X.w X.K X.mg X.base k f fd ps sp) (hr : Room (k + 1) X.A) (hg : Gl X x) (hm : X.mg x = some (.ref C)) (hb : Bnd X.K fd ps 1 0 ks src) (tkx : Takes X W)
    (hkw : PK X kws tk) (hall : (backToKw pos (keywordEach kws X.env)).all (·.1.isSome) = true := by rfl) (hks : (backToKw pos (keywordEach kws X.env)).filterMap (·.1) = ks := by rfl)
    (hdb : (x == ("__debug__" : Str)) = false := by decide) (hpl : ((backTo pos (starEach [] X.env)).any (·.1) || (backToKw pos (keywordEach kws X.env)).any (·.1.isNone)) = false := by rfl) :
    PE X (.Call (.Name x p) [] kws pos) (tGm C 0 ks.length sp W src tNil tk) := ⟨fun pins s σ H Q I h =>
  wpAny_Call_Name_kw (ld_glob I hg hm (PySem.W.callWith_KW0 (h₀ := X.base) I.ok.mod.kin M.kp hall (thn (hkw.run pos pins s σ H _ I h) fun ws s2 ⟨zs, H2, I2, rz, l1, l2, q2⟩ => ⟨I2.kIn, by
    rw [hks]; exact make_g (us := []) (vs := []) hG M F hr hb (passAt tkx σ) I2 .nil rz rfl l2 q2⟩) hpl) hdb)⟩
theorem pg_meth {pl : Sem Bool} (hG : X.A.guards = some []) (ho : PE X o ta) (c : Cls X.K C) (hm : Meth X.K C mm f) (F : FnG X.prog X.w X.K X.mg X.base k f fd ps sp) (hr : Room k X.A) (hb : Bnd X.K fd ps 1 n ks src) (tkx : Takes X W)
    (ha : PA X (e :: es) t) (hkw : PK X kws tk) (hall : (backToKw pos (keywordEach kws X.env)).all (·.1.isSome) = true := by rfl) (hks : (backToKw pos (keywordEach kws X.env)).filterMap (·.1) = ks := by rfl)
    (he : starEach (e :: es) X.env = (false, eval e X.env) :: starEach es X.env := by rfl) (hpl : ((backTo pos (starEach (e :: es) X.env)).any (·.1) || (backToKw pos (keywordEach kws X.env)).any (·.1.isNone)) = false := by rfl)
    (ht : eval (.Call (.Attribute o mm apos) (e :: es) kws pos) X.env = (do
      let ov ← eval o X.env
      standAt apos.atName
      let (f, first) ← holding [ov] (getMethod ov mm pl)
      callWith pos f first (backTo pos (starEach (e :: es) X.env)) (backToKw pos (keywordEach kws X.env))) := by rfl) :
    PE X (.Call (.Attribute o mm apos) (e :: es) kws pos) (tGo C mm n ks.length sp W src ta t tk) := ⟨fun pins s σ H Q I h =>
  PySem.W.methodCall_KW (pl := pl) (thn (ho.run pins s σ H _ I h) fun u s1 ⟨x, H1, I1, rx, a, dx, fs, ex, ea, l, q⟩ => by
    subst ex
    obtain rfl : u = Value.ref a := rx
    refine getmeth_ok I1 ea c hm l (PySem.W.callWith_KW (first := [.ref a]) (h₀ := X.base) I.ok.mod.kin hm.kp hall (thn (ha.run pos pins s1 σ H1 _ I1 q) fun us s2 ⟨vs, H2, I2, r, q2⟩ => thn (hkw.run pos pins s2 σ H2 _ I2 q2) fun ws s3 ⟨zs, H3, I3, rz, l1, l2, q3⟩ => ⟨I3.kIn, ?_⟩) hpl he)
    rw [hks]
    exact call_g (fs := [.ref a]) (gs := [.ref a]) hG F hr hb (passAt tkx σ) I3 (.cons rfl .nil) r rz rfl l1 l2 q3) ht⟩
theorem pg_meth0 {pl : Sem Bool} (hG : X.A.guards = some []) (ho : PE X o ta) (c : Cls X.K C) (hm : Meth X.K C mm f) (F : FnG X.prog X.w X.K X.mg X.base k f fd ps sp) (hr : Room k X.A) (hb : Bnd X.K fd ps 1 0 ks src) (tkx : Takes X W)
    (hkw : PK X kws tk) (hall : (backToKw pos (keywordEach kws X.env)).all (·.1.isSome) = true := by rfl) (hks : (backToKw pos (keywordEach kws X.env)).filterMap (·.1) = ks := by rfl)
    (hpl : ((backTo pos (starEach [] X.env)).any (·.1) || (backToKw pos (keywordEach kws X.env)).any (·.1.isNone)) = false := by rfl)
    (ht : eval (.Call (.Attribute o mm apos) [] kws pos) X.env = (do
      let ov ← eval o X.env
      standAt apos.atName
      let (f, first) ← holding [ov] (getMethod ov mm pl)
      callWith pos f first (backTo pos (starEach [] X.env)) (backToKw pos (keywordEach kws X.env))) := by rfl) :
    PE X (.Call (.Attribute o mm apos) [] kws pos) (tGo C mm 0 ks.length sp W src ta tNil tk) := ⟨fun pins s σ H Q I h =>
  PySem.W.methodCall_KW (pl := pl) (thn (ho.run pins s σ H _ I h) fun u s1 ⟨x, H1, I1, rx, a, dx, fs, ex, ea, l, q⟩ => by
    subst ex
    obtain rfl : u = Value.ref a := rx
    refine getmeth_ok I1 ea c hm l (PySem.W.callWith_KW0 (first := [.ref a]) (h₀ := X.base) I.ok.mod.kin hm.kp hall (thn (hkw.run pos pins s1 σ H1 _ I1 q) fun ws s3 ⟨zs, H3, I3, rz, l1, l2, q3⟩ => ⟨I3.kIn, ?_⟩) hpl)
    rw [hks]
    exact call_g (fs := [.ref a]) (gs := [.ref a]) (us := []) (vs := []) hG F hr hb (passAt tkx σ) I3 (.cons rfl .nil) .nil rz rfl rfl l2 q3) ht⟩
end
end DL

namespace DL
open PySem L2

abbrev Con := List D → (D → Prop) → (XD → Prop) → Prop
structure Back (P H P' H' : Hp) : Prop where
  p : Same P P'
  s : Same P' H'
  h : Same H H'
  n : ∀ a o, P' a = some o → (∃ o', P a = some o') ∨ H a = none
def spD (K : PySem.W.Frag) (cl : Nat → Addr) (C : Con) : Sp := fun vs H Q X => ∃ P ds Qd Xd, Same P H ∧ IsA K cl P ds vs ∧ C ds Qd Xd ∧
  (∀ d v P' H', Back P H P' H' → Is K cl P' d v → Qd d → Q v H') ∧ ∀ e cls d P' H', Back P H P' H' → XIs K cl P' H' e cls d → Xd e → X cls d H'
abbrev ConI := List D → (List Str → List D → Prop) → (XD → Prop) → Prop
structure BackI (x : Addr) (P H P' H' : Hp) : Prop where
  p : Same P P'
  s : Same P' H'
  h : ∀ a o, H a = some o → a ≠ x → H' a = some o
  n : ∀ a o, P' a = some o → (∃ o', P a = some o') ∨ H a = none
def spI (K : PySem.W.Frag) (cl : Nat → Addr) (c : Nat) (C : ConI) : Sp := fun vs H Q X => ∃ x dx vs' P ds Qd Xd, vs = .ref x :: vs' ∧ H x = some (.ins (cl c) dx []) ∧ P x = none ∧ Same P H ∧ IsA K cl P ds vs' ∧ C ds Qd Xd ∧
  (∀ fs ws P' H', BackI x P H P' H' → P' x = none → H' x = some (.ins (cl c) dx fs) → IsA K cl P' ws (fs.map (·.2)) → Qd (fs.map (·.1)) ws → Q .non H') ∧ ∀ e cls d P' H', BackI x P H P' H' → P' x = none → XIs K cl P' H' e cls d → Xd e → X cls d H'

section
variable {E : DC} {W : WX} {P P' H H' : Hp} {σ : L2.St} {Γ Γ' : List Sl} {X : Cx}
variable {a b c e o : Expr} {es : List Expr} {ta tb tc te : DE} {pos p apos : Pos} {tas : DA}
theorem Rep.back (R : Rep E P H σ Γ) (b : Back P H P' H') : Rep E P' H' σ Γ := R.grow b.p b.s b.h b.n
theorem Gr.back (b : Back P H P' H') : Gr σ Γ P H Γ P' H' := .grow b.p b.h b.n
theorem IsA.of_dvs {K : PySem.W.Frag} {cl : Nat → Addr} {ds : List D} {vs : List V} (h : IsA K cl P ds vs) (dvs : List V) : IsA K cl P (ds ++ dvs.map D.v) (vs ++ dvs) := h.append (.of_atoms dvs)
theorem XIs.mono {K : PySem.W.Frag} {cl : Nat → Addr} {x : XD} {cls : Value} {d : Option Addr} (h : XIs K cl P H x cls d) (s : Same P P') : XIs K cl P' H x cls d := by
  obtain ⟨h1, h2⟩ := h
  refine ⟨h1, ?_⟩
  rcases h2 with h2 | ⟨dd, fs, e, e1, e2, e3⟩
  · exact .inl h2
  · exact .inr ⟨dd, fs, e, e1, e2, e3.mono s⟩

theorem dk_nil : PK X [] (upA E W dNil) := ⟨fun pos pins s σ H Q I h => by
  obtain ⟨P, Γ, x, Qd, R, hT, hx, hQ⟩ := h
  exact pk_nil.run pos pins s σ H Q I (hQ _ _ _ _ _ .refl R .nil hT)⟩
theorem dk_cons {nm : Option Str} {kpos : Pos} {kws : List Keyword} (ha : PE X e (up E W ta)) (hr : PK X kws (upA E W tas)) : PK X (⟨nm, e, kpos⟩ :: kws) (upA E W (dCons ta tas)) :=
  ⟨fun pos pins s σ H Q I h => (pk_cons ha hr).run pos pins s σ H Q I (up_cons h)⟩
@[simp] def dCall (C : Con) (n m : Nat) (src : List Src) (t tk : DA) : DE := fun x Γ Q => t x Γ fun ds Γ1 => tk x Γ1 fun es Γ2 => ds.length = n ∧ es.length = m ∧ C (pickD src ds es) (fun d => Q d Γ2) fun e => x e Γ2
variable {tks : DA} {n m : Nat} {src : List Src}
theorem up_call {C : Con} {Q : VK} (h : up E W (dCall C n m src tas tks) σ H Q) : tGf n m (spD E.K E.cl C) W src (upA E W tas) (upA E W tks) σ H Q := by
  obtain ⟨P, Γ, x, Qd, R, hT, hx, hQ⟩ := h
  refine ⟨P, Γ, x, _, R, hT, hx, fun ds Γ1 vs P1 H1 g1 R1 i1 h1 => ?_⟩
  refine ⟨P1, Γ1, x, _, R1, h1, hx, fun es Γ2 zs P2 H2 g2 R2 i2 h2 => ?_⟩
  obtain ⟨l1, l2, h2⟩ := h2
  exact ⟨i1.length.trans l1, i2.length.trans l2, P2, _, _, _, R2.sub, (i1.mono g2.p).pick i2 src, h2, fun d v P' H' bk i q => hQ _ _ _ _ _ (g1.trans (g2.trans (.back bk))) (R2.back bk) i q, fun e cls d P' H' bk xi z => hx e _ _ _ _ _ (R2.back bk) xi z⟩
theorem upA_nil {Q : List V → Hp → Prop} (h : upA E W dNil σ H Q) : tNil σ H Q := by
  obtain ⟨P, Γ, x, Qd, R, hT, hx, hQ⟩ := h
  exact hQ _ _ _ _ _ .refl R .nil hT
variable {k : Nat} {f : Addr} {f' : Str} {fd : FuncData} {ps ks : List Str} {C : Con} {CI : ConI} {x mm : Str} {kws : List Keyword}
theorem de_call (hG : X.A.guards = some []) (F : FnG X.prog X.w X.K X.mg X.base k f fd ps (spD E.K E.cl C)) (hr : Room k X.A) (hg : Gl X x) (hm : X.mg x = some (.ref f)) (hk : PySem.W.keepIn X.K (.ref f) = true) (hb : Bnd X.K fd ps 0 n ks src) (tkx : Takes X W)
    (ha : PA X (e :: es) (upA E W tas)) (hkw : PK X kws (upA E W tks)) (hall : (backToKw pos (keywordEach kws X.env)).all (·.1.isSome) = true := by rfl) (hks : (backToKw pos (keywordEach kws X.env)).filterMap (·.1) = ks := by rfl)
    (hdb : (x == ("__debug__" : Str)) = false := by decide) (he : starEach (e :: es) X.env = (false, eval e X.env) :: starEach es X.env := by rfl)
    (hpl : ((backTo pos (starEach (e :: es) X.env)).any (·.1) || (backToKw pos (keywordEach kws X.env)).any (·.1.isNone)) = false := by rfl) :
    PE X (.Call (.Name x p) (e :: es) kws pos) (up E W (dCall C n ks.length src tas tks)) := impE (pg_call hG F hr hg hm hk hb tkx ha hkw hall hks hdb he hpl) fun _ _ _ h => up_call h
theorem de_call0 (hG : X.A.guards = some []) (F : FnG X.prog X.w X.K X.mg X.base k f fd ps (spD E.K E.cl C)) (hr : Room k X.A) (hg : Gl X x) (hm : X.mg x = some (.ref f)) (hk : PySem.W.keepIn X.K (.ref f) = true) (hb : Bnd X.K fd ps 0 0 ks src) (tkx : Takes X W)
    (hkw : PK X kws (upA E W tks)) (hall : (backToKw pos (keywordEach kws X.env)).all (·.1.isSome) = true := by rfl) (hks : (backToKw pos (keywordEach kws X.env)).filterMap (·.1) = ks := by rfl)
    (hdb : (x == ("__debug__" : Str)) = false := by decide) (hpl : ((backTo pos (starEach [] X.env)).any (·.1) || (backToKw pos (keywordEach kws X.env)).any (·.1.isNone)) = false := by rfl) :
    PE X (.Call (.Name x p) [] kws pos) (up E W (dCall C 0 ks.length src dNil tks)) := impE (pg_call0 hG F hr hg hm hk hb tkx hkw hall hks hdb hpl) fun σ H Q h => upA_nil (up_call h)
def idx (f : Str) : List Str → Option Nat
  | [] => none
  | g :: r => if f = g then some 0 else (idx f r).map (· + 1)
theorem lookup_idx {f : Str} : ∀ {fs : List (Str × V)} {k : Nat} {v : V}, idx f (fs.map (·.1)) = some k → (fs.map (·.2))[k]? = some v → fs.lookup f = some v
  | [], k, v, h, _ => by simp [idx] at h
  | (g, y) :: r, k, v, h, h2 => by
    rw [List.map_cons] at h h2
    unfold idx at h
    by_cases e : f = g
    · rw [if_pos e] at h
      cases h
      simp only [List.getElem?_cons_zero, Option.some.injEq] at h2
      subst h2
      have hb : (f == g) = true := beq_iff_eq.mpr e
      simp only [List.lookup, hb]
    · rw [if_neg e] at h
      have hb : (f == g) = false := beq_eq_false_iff_ne.mpr e
      simp only [Option.map_eq_some_iff] at h
      obtain ⟨j, h1, rfl⟩ := h
      simp only [List.lookup, hb]
      exact lookup_idx h1 (by simpa using h2)
theorem lookup_noidx {f : Str} : ∀ {fs : List (Str × V)}, idx f (fs.map (·.1)) = none → fs.lookup f = none
  | [], _ => rfl
  | (g, y) :: r, h => by
    rw [List.map_cons] at h
    unfold idx at h
    by_cases e : f = g
    · rw [if_pos e] at h; cases h
    · rw [if_neg e] at h
      have hb : (f == g) = false := beq_eq_false_iff_ne.mpr e
      simp only [Option.map_eq_none_iff] at h
      simp only [List.lookup, hb]
      exact lookup_noidx h
@[simp] def dFld (f : Str) (ta : DE) : DE := fun x Γ Q => ta x Γ fun d Γ1 => match d with
  | .obj _ ns ws => match idx f ns with
    | some k => match ws[k]? with
      | some w => Q w Γ1
      | none => False
    | none => False
  | _ => False
theorem de_fld (hK : X.K = E.K) (hc : ∀ c, Cls E.K (E.cl c)) (hn : ∀ c, NoAttr E.K (E.cl c) f') (ha : PE X a (up E W ta)) (hb : attributeBase a f' X.env (eval a X.env) = eval a X.env := by rfl) : PE X (.Attribute a f' pos) (up E W (dFld f' ta)) :=
  impE (pe_fld ha hb) fun σ H Q h => by
    obtain ⟨P, Γ, x, Qd, R, hT, hx, hQ⟩ := h
    refine ⟨P, Γ, x, _, R, hT, hx, fun d Γ1 v P1 H1 g1 R1 i1 h1 => ?_⟩
    split at h1
    · split at h1
      · split at h1
        · rename_i c ns ws _ k ek _ w ew
          obtain ⟨q, dx, fs, rfl, hq, rfl, hw⟩ := i1.obj_inv
          obtain ⟨v, e1, e2⟩ := hw.get ew
          exact ⟨q, _, dx, fs, v, rfl, R1.sub _ _ hq, by rw [hK]; exact hc _, by rw [hK]; exact hn _, lookup_idx ek e1, hQ _ _ _ _ _ g1 R1 e2 h1⟩
        · exact h1.elim
      · exact h1.elim
    · exact h1.elim
@[simp] def dFldM (i : Nat) (f : Str) : DE := fun x Γ Q => match Γ[i]? with
  | some (.mo _ _ _ ns ws) => match idx f ns with
    | some k => match ws[k]? with
      | some w => Q w Γ
      | none => False
    | none => False
  | _ => False
theorem de_fldM (i : Nat) {y : Str} {pos' : Pos} (hK : X.K = E.K) (hc : ∀ c, Cls E.K (E.cl c)) (hn : ∀ c, NoAttr E.K (E.cl c) f') (hN : X.N[i]? = some y := by rfl) (hv : Vis X.env.scope y := by first | exact Or.inl rfl | exact Or.inr (Or.inl rfl) | exact Or.inr (Or.inr rfl)) (hd : (y == ("__debug__" : Str)) = false := by decide)
    (hcd : (y == ("__classdict__" : Str)) = false := by decide) (hb : attributeBase (.Name y pos') f' X.env (eval (.Name y pos') X.env) = eval (.Name y pos') X.env := by rfl) : PE X (.Attribute (.Name y pos') f' pos) (up E W (dFldM i f')) :=
  impE (pe_fld (pv i hN hv hd hcd) hb) fun σ H Q h => by
    obtain ⟨P, Γ, x, Qd, R, hT, hx, hQ⟩ := h
    unfold dFldM at hT
    split at hT
    · split at hT
      · split at hT
        · rename_i q dx c ns ws e _ k ek _ w ew
          have hi : i < σ.length := by rw [R.len]; exact (List.getElem?_eq_some_iff.mp e).1
          obtain ⟨fs, eo, n1, hq, rfl, hw⟩ := R.sl i _ σ[i] e (List.getElem?_eq_getElem hi)
          obtain ⟨v, e1, e2⟩ := hw.get ew
          exact ⟨.ref q, by rw [List.getElem?_eq_getElem hi, eo], q, _, dx, fs, v, rfl, hq, by rw [hK]; exact hc _, by rw [hK]; exact hn _, lookup_idx ek e1, hQ _ _ _ _ _ .refl R e2 hT⟩
        · exact hT.elim
      · exact hT.elim
    · exact hT.elim
@[simp] def dProp (c : Nat) (C : Con) (ta : DE) : DE := fun x Γ Q => ta x Γ fun d Γ1 => match d with
  | .obj c' _ _ => c' = c ∧ C [d] (fun d => Q d Γ1) fun _ => False
  | _ => False
theorem prop_g {pins : List (Addr × Obj)} {s : Shared} {Q : VK} {b : Bool} {E' : Value → Shared → Prop} {C a pp g dx : Addr} {fs : List (Str × V)} {sp : Sp} (hG : X.A.guards = some []) (I : Inv X pins σ H s) (ea : H a = some (.ins C dx fs)) (c : Cls X.K C) (hp : PropOf X.K C f' pp g)
    (F : FnG X.prog X.w X.K X.mg X.base k g fd ps sp) (hr : Room (k + 1) X.A) (hb : Bnd X.K fd ps 1 0 [] []) (h : sp [.ref a] H Q E0) : wpAny (model X.prog X.w) X.A (getAttr (.ref a) f' b) (EP X pins σ Q) E' s := by
  obtain ⟨mA, O, _⟩ := ins_get I.hok ea
  obtain ⟨od, J, _⟩ := O.look
  obtain ⟨rest, hrec⟩ := hp.rec_
  obtain ⟨cd, hcd, _⟩ := PySem.W.any_some c.hd
  have I1 := I.tok (s.toks + 1)
  refine PySem.W.get_bind I.kIn J (PySem.W.plainGet_of (c.get f')).1 (PySem.W.findObj_data (by rw [hcd]; rfl) hp.at_ hp.get hp.tak) (PySem.W.plainGet_of (c.get f')).2 (wpAny_call (PySem.W.prop_get (s := { s with toks := s.toks + 1 }) I.kIn hrec ?_))
  refine code_g1 (A := X.A.in1) (gs := [.ref a]) hG I.ok.frames F hr.in1 hb I1 (.cons rfl .nil) rfl h fun u s' q => ?_
  obtain ⟨v, H', I3, rv, q3⟩ := q
  show wpAny _ _ (handedOut u) _ _ _
  rw [PySem.W.handedOut_of (handed_of rv)]
  exact wpAny_pure ⟨v, H', I3, rv, q3⟩
theorem de_prop {cn : Nat} {pp g : Addr} (hG : X.A.guards = some []) (hc : Cls X.K (E.cl cn)) (hp : PropOf X.K (E.cl cn) f' pp g) (F : FnG X.prog X.w X.K X.mg X.base k g fd ps (spD E.K E.cl C)) (hr : Room (k + 1) X.A) (hb : Bnd X.K fd ps 1 0 [] []) (ha : PE X a (up E W ta))
    (hab : attributeBase a f' X.env (eval a X.env) = eval a X.env := by rfl) : PE X (.Attribute a f' pos) (up E W (dProp cn C ta)) := ⟨fun pins s σ H Q I h =>
  attr_of hab (thn (ha.run pins s σ H (fun v H1 => ∃ q dx fs, v = .ref q ∧ H1 q = some (.ins (E.cl cn) dx fs) ∧ spD E.K E.cl C [.ref q] H1 Q E0) I (by
    obtain ⟨P, Γ, x, Qd, R, hT, hx, hQ⟩ := h
    refine ⟨P, Γ, x, _, R, hT, hx, fun d Γ1 v P1 H1 g1 R1 i1 h1 => ?_⟩
    split at h1
    · rename_i c' ns ws
      obtain ⟨rfl, h1⟩ := h1
      have i1' := i1
      obtain ⟨q, dx, fs, rfl, hq, rfl, hw⟩ := i1.obj_inv
      exact ⟨q, dx, fs, rfl, R1.sub _ _ hq, P1, _, _, _, R1.sub, .cons i1' .nil, h1, fun d v P' H' bk i q => hQ _ _ _ _ _ (g1.trans (.back bk)) (R1.back bk) i q, fun _ _ _ _ _ _ _ z => z.elim⟩
    · exact h1.elim)) fun u s1 ⟨v, H1, I1, rv, q, dx, fs, ev, ea, hsp⟩ => by
      subst ev
      obtain rfl : u = Value.ref q := rv
      exact prop_g hG I1 ea hc hp F hr hb hsp)⟩
@[simp] def dMeth (c : Nat) (mm : Str) (C : Con) (n m : Nat) (src : List Src) (ta : DE) (t tk : DA) : DE := fun x Γ Q => ta x Γ fun d Γ1 => match d with
  | .obj c' ns _ => c' = c ∧ idx mm ns = none ∧ t x Γ1 fun ds Γ2 => tk x Γ2 fun es Γ3 => ds.length = n ∧ es.length = m ∧ C (d :: pickD src ds es) (fun d => Q d Γ3) fun e => x e Γ3
  | _ => False
theorem up_meth {cn : Nat} {Q : VK} (h : up E W (dMeth cn mm C n m src ta tas tks) σ H Q) : tGo (E.cl cn) mm n m (spD E.K E.cl C) W src (up E W ta) (upA E W tas) (upA E W tks) σ H Q := by
  obtain ⟨P, Γ, x, Qd, R, hT, hx, hQ⟩ := h
  refine ⟨P, Γ, x, _, R, hT, hx, fun d Γ1 v P1 H1 g1 R1 i1 h1 => ?_⟩
  split at h1
  · rename_i c' ns ws
    obtain ⟨rfl, hn, h1⟩ := h1
    have i1' := i1
    obtain ⟨q, dx, fs, rfl, hq, rfl, hw⟩ := i1.obj_inv
    refine ⟨q, dx, fs, rfl, R1.sub _ _ hq, lookup_noidx hn, P1, Γ1, x, _, R1, h1, hx, fun ds Γ2 vs P2 H2 g2 R2 i2 h2 => ?_⟩
    refine ⟨P2, Γ2, x, _, R2, h2, hx, fun es Γ3 zs P3 H3 g3 R3 i3 h3 => ?_⟩
    obtain ⟨l1, l2, h3⟩ := h3
    exact ⟨i2.length.trans l1, i3.length.trans l2, P3, _, _, _, R3.sub, .cons (i1'.mono (g2.p.trans g3.p)) ((i2.mono g3.p).pick i3 src), h3, fun d v P' H' bk i q => hQ _ _ _ _ _ (g1.trans (g2.trans (g3.trans (.back bk)))) (R3.back bk) i q, fun e cls d P' H' bk xi z => hx e _ _ _ _ _ (R3.back bk) xi z⟩
  · exact h1.elim
theorem de_meth {pl : Sem Bool} {cn : Nat} (hG : X.A.guards = some []) (ho : PE X o (up E W ta)) (hc : Cls X.K (E.cl cn)) (hm : Meth X.K (E.cl cn) mm f) (F : FnG X.prog X.w X.K X.mg X.base k f fd ps (spD E.K E.cl C)) (hr : Room k X.A) (hb : Bnd X.K fd ps 1 n ks src) (tkx : Takes X W)
    (ha : PA X (e :: es) (upA E W tas)) (hkw : PK X kws (upA E W tks)) (hall : (backToKw pos (keywordEach kws X.env)).all (·.1.isSome) = true := by rfl) (hks : (backToKw pos (keywordEach kws X.env)).filterMap (·.1) = ks := by rfl)
    (he : starEach (e :: es) X.env = (false, eval e X.env) :: starEach es X.env := by rfl) (hpl : ((backTo pos (starEach (e :: es) X.env)).any (·.1) || (backToKw pos (keywordEach kws X.env)).any (·.1.isNone)) = false := by rfl)
    (ht : eval (.Call (.Attribute o mm apos) (e :: es) kws pos) X.env = (do
      let ov ← eval o X.env
      standAt apos.atName
      let (f, first) ← holding [ov] (getMethod ov mm pl)
      callWith pos f first (backTo pos (starEach (e :: es) X.env)) (backToKw pos (keywordEach kws X.env))) := by rfl) :
    PE X (.Call (.Attribute o mm apos) (e :: es) kws pos) (up E W (dMeth cn mm C n ks.length src ta tas tks)) := impE (pg_meth (pl := pl) hG ho hc hm F hr hb tkx ha hkw hall hks he hpl ht) fun _ _ _ h => up_meth h
theorem de_meth0 {pl : Sem Bool} {cn : Nat} (hG : X.A.guards = some []) (ho : PE X o (up E W ta)) (hc : Cls X.K (E.cl cn)) (hm : Meth X.K (E.cl cn) mm f) (F : FnG X.prog X.w X.K X.mg X.base k f fd ps (spD E.K E.cl C)) (hr : Room k X.A) (hb : Bnd X.K fd ps 1 0 ks src) (tkx : Takes X W)
    (hkw : PK X kws (upA E W tks)) (hall : (backToKw pos (keywordEach kws X.env)).all (·.1.isSome) = true := by rfl) (hks : (backToKw pos (keywordEach kws X.env)).filterMap (·.1) = ks := by rfl)
    (hpl : ((backTo pos (starEach [] X.env)).any (·.1) || (backToKw pos (keywordEach kws X.env)).any (·.1.isNone)) = false := by rfl)
    (ht : eval (.Call (.Attribute o mm apos) [] kws pos) X.env = (do
      let ov ← eval o X.env
      standAt apos.atName
      let (f, first) ← holding [ov] (getMethod ov mm pl)
      callWith pos f first (backTo pos (starEach [] X.env)) (backToKw pos (keywordEach kws X.env))) := by rfl) :
    PE X (.Call (.Attribute o mm apos) [] kws pos) (up E W (dMeth cn mm C 0 ks.length src ta dNil tks)) := impE (pg_meth0 (pl := pl) hG ho hc hm F hr hb tkx hkw hall hks hpl ht) fun σ H Q h => by
  have q := up_meth h
  obtain ⟨P, Γ, x, Qd, R, hT, hx, hQ⟩ := q
  exact ⟨P, Γ, x, Qd, R, hT, hx, fun d Γ' v P' H' g R' i z => by
    obtain ⟨a, dx, fs, e1, e2, e3, e4⟩ := hQ d Γ' v P' H' g R' i z
    exact ⟨a, dx, fs, e1, e2, e3, upA_nil e4⟩⟩
@[simp] def dMake (c : Nat) (C : ConI) (n m : Nat) (src : List Src) (t tk : DA) : DE := fun x Γ Q => t x Γ fun ds Γ1 => tk x Γ1 fun es Γ2 => ds.length = n ∧ es.length = m ∧ C (pickD src ds es) (fun ns ws => Q (.obj c ns ws) Γ2) fun e => x e Γ2
theorem make_back {x dx : Addr} {P H P' H' : Hp} {C : Addr} {fs : List (Str × V)} (hx : H x = none) (hd : H dx = none) (hne : dx ≠ x) (bk : BackI x P (upd (upd H dx (.own x)) x (.ins C dx [])) P' H') (hp : P' x = none) (hi : H' x = some (.ins C dx fs)) :
    Back P H (upd P' x (.ins C dx fs)) H' where
  p := bk.p.trans (same_upd hp)
  s := fun b u q => by
    by_cases e : b = x
    · subst e; rw [upd_same] at q; cases q; exact hi
    · rw [upd_ne e] at q; exact bk.s b u q
  h := fun b u q => bk.h b u (by rw [upd_ne (ne_of_none q hx), upd_ne (ne_of_none q hd)]; exact q) (ne_of_none q hx)
  n := fun b u q => by
    by_cases e : b = x
    · subst e; exact .inr hx
    · rw [upd_ne e] at q
      rcases bk.n b u q with h | h
      · exact .inl h
      · refine .inr ?_
        rw [upd_ne e] at h
        by_cases e2 : b = dx
        · rw [e2]; exact hd
        · rw [upd_ne e2] at h; exact h
theorem make_backX {x dx : Addr} {P H P' H' : Hp} {C : Addr} (hx : H x = none) (hd : H dx = none) (hne : dx ≠ x) (bk : BackI x P (upd (upd H dx (.own x)) x (.ins C dx [])) P' H') : Back P H P' H' where
  p := bk.p
  s := bk.s
  h := fun b u q => bk.h b u (by rw [upd_ne (ne_of_none q hx), upd_ne (ne_of_none q hd)]; exact q) (ne_of_none q hx)
  n := fun b u q => by
    rcases bk.n b u q with h | h
    · exact .inl h
    · by_cases e : b = x
      · rw [e]; exact .inr hx
      · rw [upd_ne e] at h
        by_cases e2 : b = dx
        · rw [e2]; exact .inr hd
        · rw [upd_ne e2] at h; exact .inr h
theorem up_make {cn : Nat} {Q : VK} (h : up E W (dMake cn CI n m src tas tks) σ H Q) : tGm (E.cl cn) n m (spI E.K E.cl cn CI) W src (upA E W tas) (upA E W tks) σ H Q := by
  obtain ⟨P, Γ, x, Qd, R, hT, hx, hQ⟩ := h
  refine ⟨P, Γ, x, _, R, hT, hx, fun ds Γ1 vs P1 H1 g1 R1 i1 h1 => ?_⟩
  refine ⟨P1, Γ1, x, _, R1, h1, hx, fun es Γ2 zs P2 H2 g2 R2 i2 h2 => ?_⟩
  obtain ⟨l1, l2, h2⟩ := h2
  refine ⟨i1.length.trans l1, i2.length.trans l2, fun y dx hy hdx hne => ?_⟩
  have s1 : Same H2 (upd (upd H2 dx (.own y)) y (.ins (E.cl cn) dx [])) := fun b u q => by rw [upd_ne (ne_of_none q hy), upd_ne (ne_of_none q hdx)]; exact q
  refine ⟨y, dx, _, P2, _, _, _, rfl, upd_same, R2.pnone hy, R2.sub.trans s1, (i1.mono g2.p).pick i2 src, h2, fun fs ws P' H' bk hp hi iw q => ⟨rfl, ?_⟩, fun e cls d P' H' bk hp xi z => ?_⟩
  · have B := make_back hy hdx hne bk hp hi
    exact hQ _ _ _ _ _ (g1.trans (g2.trans (.back B))) (R2.back B) (.obj upd_same rfl (iw.mono (same_upd hp))) q
  · exact hx e _ _ _ _ _ (R2.back (make_backX hy hdx hne bk)) xi z
theorem de_make {cn : Nat} (hG : X.A.guards = some []) (M : Mk X.K (E.cl cn) f) (F : FnG X.prog X.w X.K X.mg X.base k f fd ps (spI E.K E.cl cn CI)) (hr : Room (k + 1) X.A) (hg : Gl X x) (hm : X.mg x = some (.ref (E.cl cn))) (hb : Bnd X.K fd ps 1 n ks src) (tkx : Takes X W)
    (ha : PA X (e :: es) (upA E W tas)) (hkw : PK X kws (upA E W tks)) (hall : (backToKw pos (keywordEach kws X.env)).all (·.1.isSome) = true := by rfl) (hks : (backToKw pos (keywordEach kws X.env)).filterMap (·.1) = ks := by rfl)
    (hdb : (x == ("__debug__" : Str)) = false := by decide) (he : starEach (e :: es) X.env = (false, eval e X.env) :: starEach es X.env := by rfl)
    (hpl : ((backTo pos (starEach (e :: es) X.env)).any (·.1) || (backToKw pos (keywordEach kws X.env)).any (·.1.isNone)) = false := by rfl) :
    PE X (.Call (.Name x p) (e :: es) kws pos) (up E W (dMake cn CI n ks.length src tas tks)) := impE (pg_make hG M F hr hg hm hb tkx ha hkw hall hks hdb he hpl) fun _ _ _ h => up_make h
theorem de_make0 {cn : Nat} (hG : X.A.guards = some []) (M : Mk X.K (E.cl cn) f) (F : FnG X.prog X.w X.K X.mg X.base k f fd ps (spI E.K E.cl cn CI)) (hr : Room (k + 1) X.A) (hg : Gl X x) (hm : X.mg x = some (.ref (E.cl cn))) (hb : Bnd X.K fd ps 1 0 ks src) (tkx : Takes X W)
    (hkw : PK X kws (upA E W tks)) (hall : (backToKw pos (keywordEach kws X.env)).all (·.1.isSome) = true := by rfl) (hks : (backToKw pos (keywordEach kws X.env)).filterMap (·.1) = ks := by rfl)
    (hdb : (x == ("__debug__" : Str)) = false := by decide) (hpl : ((backTo pos (starEach [] X.env)).any (·.1) || (backToKw pos (keywordEach kws X.env)).any (·.1.isNone)) = false := by rfl) :
    PE X (.Call (.Name x p) [] kws pos) (up E W (dMake cn CI 0 ks.length src dNil tks)) := impE (pg_make0 hG M F hr hg hm hb tkx hkw hall hks hdb hpl) fun σ H Q h => upA_nil (up_make h)
end
end DL

namespace DL
open PySem L2

section
variable {E : DC} {W : WX} {P P' H H' : Hp} {σ σ' : L2.St} {Γ Γ' : List Sl} {X : Cx}
theorem SLk.grow {De : DEnds} {D : Ends} (L : SLk E W P De D) (s : Same P P') : SLk E W P' De D :=
  ⟨fun σ' Γ' P' H' s' => L.nx σ' Γ' P' H' (s.trans s'), fun d v σ' Γ' P' H' s' => L.rt d v σ' Γ' P' H' (s.trans s'), fun σ' Γ' P' H' s' => L.bk σ' Γ' P' H' (s.trans s'), fun σ' Γ' P' H' s' => L.ct σ' Γ' P' H' (s.trans s'), L.ex⟩

theorem Own.set_of {i : Nat} {d : D} {v : V} {a : Addr} (h : Own (σ.set i (some v)) (Γ.set i (.d d)) a) : Own σ Γ a := by
  obtain ⟨j, t, h1, h2, h3⟩ := h
  by_cases e : i = j
  · subst e
    rw [List.getElem?_set] at h1
    simp only [if_true] at h1
    split at h1
    · cases h1; cases h2
    · cases h1
  · rw [List.getElem?_set_ne e] at h1 h3
    exact ⟨j, t, h1, h2, h3⟩
theorem Rep.setD (R : Rep E P H σ Γ) {i : Nat} {d : D} {v : V} (h : Is E.K E.cl P d v) : Rep E P H (σ.set i (some v)) (Γ.set i (.d d)) where
  sub := R.sub
  p0 := R.p0
  h0 := R.h0
  dm := R.dm
  new := R.new
  len := by rw [List.length_set, List.length_set]; exact R.len
  sl := fun j s o e1 e2 => by
    by_cases e : i = j
    · subst e
      rw [List.getElem?_set] at e1 e2
      simp only [if_true] at e1 e2
      split at e1
      · split at e2
        · cases e1; cases e2; exact ⟨v, rfl, h⟩
        · cases e2
      · cases e1
    · rw [List.getElem?_set_ne e] at e1 e2
      exact R.sl j s o e1 e2
  dj := fun j k a sj sk hn h1 h2 h3 h4 h5 h6 => by
    have ne : ∀ m (t : Sl), (Γ.set i (.d d))[m]? = some t → t.own = true → i ≠ m := fun m t h1 h2 e => by
      subst e
      rw [List.getElem?_set] at h1
      simp only [if_true] at h1
      split at h1
      · cases h1; cases h2
      · cases h1
    have n1 := ne j sj h1 h2
    have n2 := ne k sk h4 h5
    rw [List.getElem?_set_ne n1] at h1 h3
    rw [List.getElem?_set_ne n2] at h4 h6
    exact R.dj j k a sj sk hn h1 h2 h3 h4 h5 h6
  ow := fun a h => R.ow a h.set_of

variable {st : Stmt} {rest : List Stmt} {t u : DST} {e : Expr} {te : DE} {pos : Pos}
@[simp] def dNext : DST := fun De Γ => De.nx Γ
@[simp] def dSeq (t u : DST) : DST := fun De Γ => t { De with nx := u De } Γ
theorem ds_nil : PSs X [] (upS E W dNext) := impSs pss_nil fun D σ H h => by
  obtain ⟨P, Γ, De, R, hT, L⟩ := h
  exact L.nx _ _ _ _ (Same.refl P) R hT
theorem ds_cons (h1 : PS X st (upS E W t)) (h2 : PSs X rest (upS E W u)) : PSs X (st :: rest) (upS E W (dSeq t u)) := impSs (pss_cons h1 h2) fun D σ H h => by
  obtain ⟨P, Γ, De, R, hT, L⟩ := h
  exact ⟨P, Γ, _, R, hT, ⟨fun σ' Γ' P' H' s R' q => ⟨P', Γ', De, R', q, L.grow s⟩, L.rt, L.bk, L.ct, L.ex⟩⟩
theorem ds_one (h1 : PS X st (upS E W t)) : PSs X [st] (upS E W t) := pss_one h1
theorem d_pass : PS X (.Pass pos) (upS E W dNext) := impS ps_pass fun D σ H h => by
  obtain ⟨P, Γ, De, R, hT, L⟩ := h
  exact L.nx _ _ _ _ (Same.refl P) R hT
@[simp] def dBreak : DST := fun De Γ => De.bk Γ
@[simp] def dCont : DST := fun De Γ => De.ct Γ
theorem d_break : PS X (.Break pos) (upS E W dBreak) := impS ps_break fun D σ H h => by
  obtain ⟨P, Γ, De, R, hT, L⟩ := h
  exact L.bk _ _ _ _ (Same.refl P) R hT
theorem d_continue : PS X (.Continue pos) (upS E W dCont) := impS ps_continue fun D σ H h => by
  obtain ⟨P, Γ, De, R, hT, L⟩ := h
  exact L.ct _ _ _ _ (Same.refl P) R hT
@[simp] def dNever : DST := fun _ _ => False
theorem d_never : PS X st (upS E W dNever) := impS ps_never fun D σ H h => by
  obtain ⟨P, Γ, De, R, hT, L⟩ := h
  exact hT.elim
theorem ds_never : PSs X rest (upS E W dNever) := impSs pss_never fun D σ H h => by
  obtain ⟨P, Γ, De, R, hT, L⟩ := h
  exact hT.elim
@[simp] def dDrop (te : DE) : DST := fun De Γ => te De.ex Γ fun _ Γ1 => De.nx Γ1
theorem d_expr (he : PE X e (up E W te)) (hs : swapsWith e none pos.line X.env = pure false := by rfl) : PS X (.Expr e pos) (upS E W (dDrop te)) := impS (ps_expr he hs) fun D σ H h => by
  obtain ⟨P, Γ, De, R, hT, L⟩ := h
  exact ⟨P, Γ, _, _, R, hT, L.ex σ, fun d Γ1 v P1 H1 g1 R1 i1 h1 => L.nx _ _ _ _ g1.p R1 h1⟩
@[simp] def dRet (te : DE) : DST := fun De Γ => te De.ex Γ De.rt
theorem d_ret (he : PE X e (up E W te)) : PS X (.Return (some e) pos) (upS E W (dRet te)) := impS (ps_ret he) fun D σ H h => by
  obtain ⟨P, Γ, De, R, hT, L⟩ := h
  exact ⟨P, Γ, _, _, R, hT, L.ex σ, fun d Γ1 v P1 H1 g1 R1 i1 h1 => L.rt _ _ _ _ _ _ g1.p R1 i1 h1⟩
@[simp] def dRetN : DST := fun De Γ => De.rt (.v .non) Γ
theorem d_retN : PS X (.Return none pos) (upS E W dRetN) := impS ps_retN fun D σ H h => by
  obtain ⟨P, Γ, De, R, hT, L⟩ := h
  exact L.rt _ _ _ _ _ _ (Same.refl P) R .v hT
@[simp] def dIfS (c : DT) (t u : DST) : DST := fun De Γ => c De.ex Γ fun k Γ1 => if k = true then t De Γ1 else u De Γ1
theorem d_if {c : Expr} {a b : List Stmt} {tc : DT} (hc : PT X c (upT E W tc)) (ha : PSs X a (upS E W t)) (hb : PSs X b (upS E W u)) : PS X (.If c a b pos) (upS E W (dIfS tc t u)) := impS (ps_if hc ha hb) fun D σ H h => by
  obtain ⟨P, Γ, De, R, hT, L⟩ := h
  refine ⟨P, Γ, _, _, R, hT, L.ex σ, fun k Γ1 P1 H1 g1 R1 h1 => ?_⟩
  cases k with
  | true => exact ⟨P1, Γ1, De, R1, h1, L.grow g1.p⟩
  | false => exact ⟨P1, Γ1, De, R1, h1, L.grow g1.p⟩

abbrev DG := D → DS → (DS → Prop) → Prop
def upG (E : DC) (ts : List Nat) (G : DG) : TG := fun v σ H Q => ∃ P Γ d Qd, Rep E P H σ Γ ∧ Is E.K E.cl P d v ∧ G d Γ Qd ∧
  ∀ σ' Γ', Rep E P H σ' Γ' → (∀ a, Own σ' Γ' a → Own σ Γ a) → (∀ vs : List Nat, (∀ i ∈ ts, i ∈ vs) → wipe σ' vs = wipe σ vs) → Qd Γ' → Q σ' H
abbrev DGs := List D → DS → (DS → Prop) → Prop
def upGs (E : DC) (ts : List Nat) (G : DGs) : TGs := fun vs σ H Q => ∃ P Γ ds Qd, Rep E P H σ Γ ∧ IsA E.K E.cl P ds vs ∧ G ds Γ Qd ∧
  ∀ σ' Γ', Rep E P H σ' Γ' → (∀ a, Own σ' Γ' a → Own σ Γ a) → (∀ vs : List Nat, (∀ i ∈ ts, i ∈ vs) → wipe σ' vs = wipe σ vs) → Qd Γ' → Q σ' H
@[simp] def dName (i : Nat) : DG := fun d Γ Q => Q (Γ.set i (.d d))
@[simp] def dGNil : DGs := fun ds Γ Q => ds = [] ∧ Q Γ
@[simp] def dGCons (g : DG) (h : DGs) : DGs := fun ds Γ Q => match ds with
  | d :: r => g d Γ fun Γ1 => h r Γ1 Q
  | [] => False
@[simp] def dGTup (n : Nat) (g : DGs) : DG := fun d Γ Q => match d with
  | .tup ds => ds.length = n ∧ g ds Γ Q
  | _ => False
theorem wipe_set {i : Nat} {x : Option V} : ∀ {vs : List Nat}, i ∈ vs → wipe (σ.set i x) vs = wipe σ vs
  | v :: vs, h => by
    unfold wipe
    by_cases e : i ∈ vs
    · rw [wipe_set e]
    · have ev : i = v := by
        rcases List.mem_cons.mp h with h | h
        · exact h
        · exact absurd h e
      subst ev
      apply List.ext_getElem?
      intro j
      rw [List.getElem?_set, List.getElem?_set, wipe_length, wipe_length, List.length_set]
      by_cases e2 : i = j
      · rw [if_pos e2, if_pos e2]
      · rw [if_neg e2, if_neg e2]
        clear h e
        induction vs with
        | nil => unfold wipe; rw [List.getElem?_set_ne e2]
        | cons w ws ih =>
          unfold wipe
          rw [List.getElem?_set, List.getElem?_set, wipe_length, wipe_length, List.length_set, ih]
theorem dg_name {i : Nat} {x : Str} (hN : X.N.Nodup) (hi : X.N[i]? = some x) (hx : Loc X.env.scope x) (hf : X.fn x = true ∨ X.env.scope.names.lookup x = some .local := by first | exact .inl rfl | exact .inr rfl | assumption) : PG X (.Name x pos) (upG E [i] (dName i)) :=
  ⟨fun pins s σ H v u Q I r h => by
    obtain ⟨P, Γ, d, Qd, R, hi', hT, hQ⟩ := h
    exact (pg_name hN hi hx hf).run pins s σ H v u Q I r (hQ _ _ (R.setD hi') (fun a => Own.set_of) (fun vs hv => wipe_set (hv i (List.mem_singleton.mpr rfl))) hT)⟩
theorem dgs_nil : PGs X [] (upGs E [] dGNil) := ⟨fun pins s σ H vs us Q I r h => by
  obtain ⟨P, Γ, ds, Qd, R, hi', ⟨rfl, hT⟩, hQ⟩ := h
  exact pgs_nil.run pins s σ H vs us Q I r ⟨hi'.nil_inv, hQ _ _ R (fun _ z => z) (fun _ _ => rfl) hT⟩⟩
theorem dgs_cons {es : List Expr} {ts us : List Nat} {g : DG} {h : DGs} (h1 : PG X e (upG E ts g)) (h2 : PGs X es (upGs E us h))
    (hs : (assignEach (e :: es) X.env).map (·.2) = assign e X.env :: (assignEach es X.env).map (·.2) := by rfl) : PGs X (e :: es) (upGs E (ts ++ us) (dGCons g h)) := ⟨fun pins s σ H vs us' Q I r hh => by
  obtain ⟨P, Γ, ds, Qd, R, hi', hT, hQ⟩ := hh
  cases ds with
  | nil => exact (show False from hT).elim
  | cons d ds =>
    obtain ⟨x, rr, rfl, i1, i2⟩ := hi'.cons_inv
    refine (pgs_cons h1 h2 hs).run pins s σ H _ us' Q I r ⟨x, rr, rfl, P, Γ, d, _, R, i1, hT, fun σ1 Γ1 R1 o1 w1 q1 => ?_⟩
    exact ⟨P, Γ1, ds, _, R1, i2, q1, fun σ2 Γ2 R2 o2 w2 q2 => hQ _ _ R2 (fun a z => o1 a (o2 a z)) (fun vs hv => (w2 vs fun i hi => hv i (List.mem_append_right _ hi)).trans (w1 vs fun i hi => hv i (List.mem_append_left _ hi))) q2⟩⟩
theorem dg_tup {es : List Expr} {k : Nat} {ts : List Nat} {g : DGs} {n : Nat} (hK : X.K = E.K) (hc : X.calm = true) (h : PGs X es (upGs E ts g))
    (hn : (assignEach es X.env).length = n := by rfl) (hst : (assignEach es X.env).findIdx? (·.1) = none := by rfl) : PG X (.Tuple es k pos) (upG E ts (dGTup n g)) := ⟨fun pins s σ H v u Q I r hh => by
  obtain ⟨P, Γ, d, Qd, R, hi', hT, hQ⟩ := hh
  refine (pg_tup hc h hn hst).run pins s σ H v u Q I r ?_
  unfold dGTup at hT
  split at hT
  · obtain ⟨a, xs, rfl, ha, hx⟩ := hi'.tup_inv
    exact ⟨a, xs, rfl, by rw [hK]; exact sqT_mono R.sub ha, by rw [hx.length]; exact hT.1, P, Γ, _, _, R, hx, hT.2, hQ⟩
  · exact hT.elim⟩
@[simp] def dAsg (te : DE) (g : DG) : DST := fun De Γ => te De.ex Γ fun d Γ1 => g d Γ1 De.nx
theorem d_asg {tg : Expr} {ts : List Nat} {g : DG} (he : PE X e (up E W te)) (hg : PG X tg (upG E ts g)) (hs : swapsWithSole [tg] e pos.line X.env = pure false := by rfl) (hw : swappedStores [tg] e X.env = pure none := by rfl)
    (h1 : (assignEach [tg] X.env).map (·.2) = [assign tg X.env] := by rfl) : PS X (.Assign [tg] e pos) (upS E W (dAsg te g)) := impS (ps_asg he hg hs hw h1) fun D σ H h => by
  obtain ⟨P, Γ, De, R, hT, L⟩ := h
  refine ⟨P, Γ, _, _, R, hT, L.ex σ, fun d Γ1 v P1 H1 g1 R1 i1 h1 => ?_⟩
  exact ⟨P1, Γ1, d, _, R1, i1, h1, fun σ' Γ' R' _ _ q => L.nx _ _ _ _ g1.p R' q⟩
@[simp] def dSet (i : Nat) (te : DE) : DST := fun De Γ => te De.ex Γ fun d Γ1 => De.nx (Γ1.set i (.d d))
theorem d_set (i : Nat) {x : Str} {pos' : Pos} (hN : X.N.Nodup) (hi : X.N[i]? = some x) (hx : Loc X.env.scope x) (he : PE X e (up E W te)) (hs : swapsWith e (some (.Name x pos')) pos.line X.env = pure false := by rfl) (hf : X.fn x = true ∨ X.env.scope.names.lookup x = some .local := by first | exact .inl rfl | exact .inr rfl | assumption) :
    PS X (.Assign [.Name x pos'] e pos) (upS E W (dSet i te)) := impS (ps_set hN hi hx he hs hf) fun D σ H h => by
  obtain ⟨P, Γ, De, R, hT, L⟩ := h
  refine ⟨P, Γ, _, _, R, hT, L.ex σ, fun d Γ1 v P1 H1 g1 R1 i1 h1 => ?_⟩
  exact L.nx _ _ _ _ g1.p (R1.setD i1) h1
@[simp] def dPar (i j : Nat) (ta : DA) : DST := fun De Γ => ta De.ex Γ fun ds Γ1 => match ds with
  | [d, d'] => De.nx ((Γ1.set i (.d d)).set j (.d d'))
  | _ => False
theorem d_par (i j : Nat) {x y : Str} {a b : Expr} {tas : DA} {px py pt : Pos} {kt k2 pt2} (hc : X.calm = true) (hN : X.N.Nodup) (hi : X.N[i]? = some x) (hj : X.N[j]? = some y) (hij : i ≠ j)
    (hx : X.env.scope.names.lookup x = some .local) (hy : X.env.scope.names.lookup y = some .local) (ha : PA X [a, b] (upA E W tas))
    (hw : swappedStores [.Tuple [.Name x px, .Name y py] kt pt] (.Tuple [a, b] k2 pt2) X.env = pure (some [x, y]) := by rfl)
    (hs : swapsWithSole [.Tuple [.Name x px, .Name y py] kt pt] (.Tuple [a, b] k2 pt2) pos.line X.env = pure false := by rfl) :
    PS X (.Assign [.Tuple [.Name x px, .Name y py] kt pt] (.Tuple [a, b] k2 pt2) pos) (upS E W (dPar i j tas)) := impS (ps_par hc hN hi hj hij hx hy ha hw hs) fun D σ H h => by
  obtain ⟨P, Γ, De, R, hT, L⟩ := h
  refine ⟨P, Γ, _, _, R, hT, L.ex σ, fun ds Γ1 vs P1 H1 g1 R1 i1 h1 => ?_⟩
  split at h1
  · obtain ⟨v, w, rfl, iv, iw⟩ := i1.two
    exact ⟨v, w, rfl, L.nx _ _ _ _ g1.p ((R1.setD iv).setD iw) h1⟩
  · exact h1.elim

def ItD (K : PySem.W.Frag) (cl : Nat → Addr) (J : It) (P : Hp) (ds : List D) : Prop := ∀ Pc H, Same P Pc → Same Pc H → (∀ i, ds.length ≤ i → J.stop i H) ∧
  ∀ (i : Nat) d, ds[i]? = some d → J.go i H ∧ ∀ x H', J.yld i H x H' → ∃ P', Back Pc H P' H' ∧ Is K cl P' d x
abbrev DI := XC → DS → (List D → DS → Prop) → Prop
def upI (E : DC) (W : WX) (T : DI) : TI := fun σ H R => ∃ P Γ x Qd, Rep E P H σ Γ ∧ T x Γ Qd ∧ XL E W σ x ∧
  ∀ ds Γ' P' H' J, Gr σ Γ P H Γ' P' H' → Rep E P' H' σ Γ' → ItD E.K E.cl J P' ds → Qd ds Γ' → R J H'
@[simp] def dForL (g : DG) (tb : DST) (De : DEnds) : List D → DS → Prop
  | [], Γ => De.nx Γ
  | d :: ds, Γ => g d Γ fun Γ1 => tb { De with nx := dForL g tb De ds, ct := dForL g tb De ds, bk := De.nx } Γ1
@[simp] def dFor (ti : DI) (g : DG) (tb : DST) : DST := fun De Γ => ti De.ex Γ fun ds Γ1 => dForL g tb De ds Γ1
theorem d_for {tg iter : Expr} {body : List Stmt} {ti : DI} {ts : List Nat} {g : DG} {tb : DST} (hp : PassesOwn (model X.prog X.w) X.A X.env X.xe) (hc : X.calm = true) (hi : PI X tg iter (upI E W ti)) (hg : PG X tg (upG E ts g)) (hb : PSs X body (upS E W tb))
    (hs : ∀ x, foldedSetIterable iter X.env x = pure x := by intro _; rfl) : PS X (.For tg iter body [] pos) (upS E W (dFor ti g tb)) := impS (ps_for hp hc hi hg hb hs) fun D σ H h => by
  obtain ⟨P, Γ, De, R, hT, L⟩ := h
  refine ⟨P, Γ, _, _, R, hT, L.ex σ, fun ds Γ1 P1 H1 J g1 R1 it h1 => ?_⟩
  refine ⟨fun i m σ H => ∃ P Γ, Same P1 P ∧ Rep E P H σ Γ ∧ dForL g tb De (ds.drop i) Γ ∧ m = ds.length - i, ⟨_, P1, Γ1, Same.refl _, R1, h1, rfl⟩, ?_⟩
  rintro i m σ2 H2 ⟨P2, Γ2, s2, R2, h2, rfl⟩
  obtain ⟨i1, i2⟩ := it P2 H2 s2 R2.sub
  by_cases hlt : i < ds.length
  · obtain ⟨go, yl⟩ := i2 i _ (List.getElem?_eq_getElem hlt)
    rw [List.drop_eq_getElem_cons hlt] at h2
    refine .inr ⟨go, fun σ' H' => ∃ P Γ, Same P1 P ∧ Rep E P H' σ' Γ ∧ dForL g tb De (ds.drop (i + 1)) Γ, fun σ' H' ⟨P, Γ, a, b, c⟩ => ⟨ds.length - (i + 1), by omega, P, Γ, a, b, c, rfl⟩, fun x H' y => ?_⟩
    obtain ⟨P3, bk, ix⟩ := yl x H' y
    refine ⟨P3, Γ2, _, _, R2.back bk, ix, h2, fun σ4 Γ4 R4 _ _ q => ?_⟩
    refine ⟨P3, Γ4, _, R4, q, ⟨fun σ' Γ' P' H' s R' q => ⟨P', Γ', s2.trans (bk.p.trans s), R', q⟩, fun d v σ' Γ' P' H' s => L.rt d v σ' Γ' P' H' (g1.p.trans (s2.trans (bk.p.trans s))), fun σ' Γ' P' H' s => L.nx σ' Γ' P' H' (g1.p.trans (s2.trans (bk.p.trans s))), fun σ' Γ' P' H' s R' q => ⟨P', Γ', s2.trans (bk.p.trans s), R', q⟩, L.ex⟩⟩
  · have hle : ds.length ≤ i := by omega
    rw [List.drop_eq_nil_of_le hle] at h2
    exact .inl ⟨i1 i hle, L.nx _ _ _ _ (g1.p.trans s2) R2 h2⟩
def dWhile (c : DT) (tb : DST) : DST := fun De Γ => ∃ Wd : Nat → DS → Prop, (∃ m, Wd m Γ) ∧ ∀ m Γ, Wd m Γ → c De.ex Γ fun k Γ1 => if k = true then tb { De with nx := fun Γ' => ∃ m', m' < m ∧ Wd m' Γ', ct := fun Γ' => ∃ m', m' < m ∧ Wd m' Γ', bk := De.nx } Γ1 else De.nx Γ1
theorem d_while {c : Expr} {body : List Stmt} {tc : DT} {tb : DST} (hp : PassesOwn (model X.prog X.w) X.A X.env X.xe) (hc : PT X c (upT E W tc)) (hb : PSs X body (upS E W tb)) : PS X (.While c body [] pos) (upS E W (dWhile tc tb)) := impS (ps_while hp hc hb) fun D σ H h => by
  obtain ⟨P, Γ, De, R, ⟨Wd, ⟨m, w0⟩, turn⟩, L⟩ := h
  refine ⟨fun m σ H => ∃ P' Γ, Same P P' ∧ Rep E P' H σ Γ ∧ Wd m Γ, ⟨m, P, Γ, Same.refl _, R, w0⟩, ?_⟩
  rintro m σ1 H1 ⟨P1, Γ1, s1, R1, w1⟩
  refine ⟨P1, Γ1, _, _, R1, turn m Γ1 w1, L.ex σ1, fun k Γ2 P2 H2 g2 R2 h2 => ?_⟩
  cases k with
  | true =>
    rw [if_pos rfl]
    refine ⟨fun σ' H' => ∃ m', m' < m ∧ ∃ P' Γ, Same P P' ∧ Rep E P' H' σ' Γ ∧ Wd m' Γ, fun _ _ z => z, ?_⟩
    refine ⟨P2, Γ2, _, R2, h2, ⟨fun σ' Γ' P' H' s R' ⟨m', hm, q⟩ => ⟨m', hm, P', Γ', s1.trans (g2.p.trans s), R', q⟩, fun d v σ' Γ' P' H' s => L.rt d v σ' Γ' P' H' (s1.trans (g2.p.trans s)), fun σ' Γ' P' H' s => L.nx σ' Γ' P' H' (s1.trans (g2.p.trans s)), fun σ' Γ' P' H' s R' ⟨m', hm, q⟩ => ⟨m', hm, P', Γ', s1.trans (g2.p.trans s), R', q⟩, L.ex⟩⟩
  | false =>
    rw [if_neg Bool.false_ne_true]
    exact L.nx _ _ _ _ (s1.trans g2.p) R2 h2

@[simp] def dItL (te : DE) : DI := fun x Γ Q => te x Γ fun d Γ1 => match d with
  | .lst ds => Q ds Γ1
  | .kst ds => Q ds Γ1
  | _ => False
variable {tg iter : Expr}
theorem itl_ok' {a : Addr} {xs : List V} {ds : List D} (h : SqL E.K P a xs) (hx : IsA E.K E.cl P ds xs) : ItD E.K E.cl (Itl E.K a) P ds := fun Pc H s1 s2 =>
  ⟨fun i hi => ⟨xs, (s1.trans s2).seq h, by rw [hx.length]; exact hi⟩, fun i d hd => by
    obtain ⟨v, e1, e2⟩ := hx.get hd
    refine ⟨⟨xs, v, (s1.trans s2).seq h, e1⟩, fun x H' y => ?_⟩
    obtain ⟨rfl, y⟩ := y
    have := y xs ((s1.trans s2).seq h)
    rw [e1] at this; cases this
    exact ⟨Pc, ⟨Same.refl _, s2, Same.refl _, fun a o z => .inl ⟨o, z⟩⟩, e2.mono s1⟩⟩
theorem di_list (hK : X.K = E.K) (he : PE X iter (up E W te)) : PI X tg iter (upI E W (dItL te)) := ⟨fun pins s σ H R I h => by
  refine (pi_list he).run pins s σ H R I ?_
  obtain ⟨P, Γ, x, Qd, Rp, hT, hx, hQ⟩ := h
  refine ⟨P, Γ, x, _, Rp, hT, hx, fun d Γ1 v P1 H1 g1 R1 i1 h1 => ?_⟩
  rw [hK]
  split at h1
  · obtain ⟨a, xs, rfl, ha, hx⟩ := i1.lst_inv
    exact ⟨a, rfl, ⟨xs, .of (R1.sub _ _ ha)⟩, hQ _ _ _ _ _ g1 R1 (itl_ok' (.of ha) hx) h1⟩
  · obtain ⟨a, xs, rfl, ha, hx⟩ := i1.kst_inv
    exact ⟨a, rfl, ⟨xs, R1.sub.seq ha⟩, hQ _ _ _ _ _ g1 R1 (itl_ok' ha hx) h1⟩
  · exact h1.elim⟩
@[simp] def dItT (te : DE) : DI := fun x Γ Q => te x Γ fun d Γ1 => match d with
  | .tup ds => Q ds Γ1
  | _ => False
theorem itt_ok {a : Addr} {xs : List V} {ds : List D} (h : SqT E.K P a xs) (hx : IsA E.K E.cl P ds xs) : ItD E.K E.cl (Itt E.K a) P ds := fun Pc H s1 s2 =>
  ⟨fun i hi => ⟨xs, sqT_mono (s1.trans s2) h, by rw [hx.length]; exact hi⟩, fun i d hd => by
    obtain ⟨v, e1, e2⟩ := hx.get hd
    refine ⟨⟨xs, v, sqT_mono (s1.trans s2) h, e1⟩, fun x H' y => ?_⟩
    obtain ⟨rfl, y⟩ := y
    have := y xs (sqT_mono (s1.trans s2) h)
    rw [e1] at this; cases this
    exact ⟨Pc, ⟨Same.refl _, s2, Same.refl _, fun a o z => .inl ⟨o, z⟩⟩, e2.mono s1⟩⟩
theorem di_tup (hK : X.K = E.K) (he : PE X iter (up E W te)) : PI X tg iter (upI E W (dItT te)) := ⟨fun pins s σ H R I h => by
  refine (pi_tup he).run pins s σ H R I ?_
  obtain ⟨P, Γ, x, Qd, Rp, hT, hx, hQ⟩ := h
  refine ⟨P, Γ, x, _, Rp, hT, hx, fun d Γ1 v P1 H1 g1 R1 i1 h1 => ?_⟩
  rw [hK]
  split at h1
  · obtain ⟨a, xs, rfl, ha, hx⟩ := i1.tup_inv
    exact ⟨a, rfl, ⟨xs, sqT_mono R1.sub ha⟩, hQ _ _ _ _ _ g1 R1 (itt_ok ha hx) h1⟩
  · exact h1.elim⟩
def rngD (lo : Int) (n : Nat) : List D := (List.range n).map fun (i : Nat) => .v (.int (lo + i))
theorem itr_ok {lo : Int} {n : Nat} : ItD E.K E.cl (Itr lo n) P (rngD lo n) := fun Pc H s1 s2 => by
  have hl : (rngD lo n).length = n := by unfold rngD; simp
  refine ⟨fun i hi => by rw [hl] at hi; exact hi, fun i d hd => ?_⟩
  have hi : i < n := by
    have := (List.getElem?_eq_some_iff.mp hd).1
    omega
  have e : d = .v (.int (lo + i)) := by
    unfold rngD at hd
    rw [List.getElem?_map, List.getElem?_range hi] at hd
    exact (Option.some.inj hd).symm
  refine ⟨hi, fun x H' y => ?_⟩
  obtain ⟨rfl, rfl⟩ := y
  rw [e]
  exact ⟨Pc, ⟨Same.refl _, s2, Same.refl _, fun a o z => .inl ⟨o, z⟩⟩, .v⟩
@[simp] def dItR1 (ta : DA) : DI := fun x Γ Q => ta x Γ fun ds Γ1 => match ds with
  | [.v (.int j)] => -(2 ^ 62) ≤ j ∧ j < 2 ^ 62 ∧ Q (rngD 0 j.toNat) Γ1
  | _ => False
@[simp] def dItR2 (ta : DA) : DI := fun x Γ Q => ta x Γ fun ds Γ1 => match ds with
  | [.v (.int i), .v (.int j)] => (-(2 ^ 62) ≤ i ∧ i < 2 ^ 62 ∧ -(2 ^ 62) ≤ j ∧ j < 2 ^ 62) ∧ Q (rngD i (j - i).toNat) Γ1
  | _ => False
variable {tas : DA} {a b : Expr} {p : Pos}
theorem di_range1 (hg : Gl X "range") (hm : X.mg "range" = none) (ha : PA X [a] (upA E W tas)) (hs : starEach [a] X.env = [(false, eval a X.env)] := by rfl) : PI X tg (.Call (.Name "range" p) [a] [] pos) (upI E W (dItR1 tas)) := ⟨fun pins s σ H R I h => by
  refine (pi_range1 hg hm ha hs).run pins s σ H R I ?_
  obtain ⟨P, Γ, x, Qd, Rp, hT, hx, hQ⟩ := h
  refine ⟨P, Γ, x, _, Rp, hT, hx, fun ds Γ1 vs P1 H1 g1 R1 i1 h1 => ?_⟩
  split at h1
  · obtain ⟨v, rfl, iv⟩ := i1.one
    rw [iv.v_inv]
    exact ⟨_, rfl, h1.1, h1.2.1, hQ _ _ _ _ _ g1 R1 itr_ok h1.2.2⟩
  · exact h1.elim⟩
theorem di_range2 (hg : Gl X "range") (hm : X.mg "range" = none) (ha : PA X [a, b] (upA E W tas)) (hs : starEach [a, b] X.env = [(false, eval a X.env), (false, eval b X.env)] := by rfl) (hs2 : starEach [b] X.env = [(false, eval b X.env)] := by rfl) :
    PI X tg (.Call (.Name "range" p) [a, b] [] pos) (upI E W (dItR2 tas)) := ⟨fun pins s σ H R I h => by
  refine (pi_range2 hg hm ha hs hs2).run pins s σ H R I ?_
  obtain ⟨P, Γ, x, Qd, Rp, hT, hx, hQ⟩ := h
  refine ⟨P, Γ, x, _, Rp, hT, hx, fun ds Γ1 vs P1 H1 g1 R1 i1 h1 => ?_⟩
  split at h1
  · obtain ⟨v, w, rfl, iv, iw⟩ := i1.two
    rw [iv.v_inv, iw.v_inv]
    exact ⟨_, _, rfl, h1.1, hQ _ _ _ _ _ g1 R1 itr_ok h1.2⟩
  · exact h1.elim⟩
end
end DL

namespace DL
open PySem L2

section
variable {E : DC} {W : WX} {P P' H H' : Hp} {σ σ' : L2.St} {Γ Γ' : List Sl} {X : Cx}
@[simp] def wipeD (Γ : DS) : List Nat → DS
  | [] => Γ
  | v :: vs => (wipeD Γ vs).set v .no
@[simp] def ownAt (Γ : DS) (i : Nat) : Bool := match Γ[i]? with
  | some s => s.own
  | none => false
@[simp] def noOwn (Γ : DS) (vs : List Nat) : Bool := vs.all fun i => !ownAt Γ i
theorem wipeD_length : ∀ {vs : List Nat}, (wipeD Γ vs).length = Γ.length
  | [] => rfl
  | v :: vs => by unfold wipeD; rw [List.length_set, wipeD_length]
theorem wipeD_other {i : Nat} : ∀ {vs : List Nat}, i ∉ vs → (wipeD Γ vs)[i]? = Γ[i]?
  | [], _ => rfl
  | v :: vs, h => by
    unfold wipeD
    rw [List.getElem?_set_ne (fun e => h (by rw [e]; exact List.mem_cons_self)), wipeD_other (fun z => h (List.mem_cons_of_mem _ z))]
theorem wipe_other {i : Nat} : ∀ {vs : List Nat}, i ∉ vs → (wipe σ vs)[i]? = σ[i]?
  | [], _ => rfl
  | v :: vs, h => by
    unfold wipe
    rw [List.getElem?_set_ne (fun e => h (by rw [e]; exact List.mem_cons_self)), wipe_other (fun z => h (List.mem_cons_of_mem _ z))]
theorem wipeD_in {i : Nat} {s : Sl} : ∀ {vs : List Nat}, i ∈ vs → (wipeD Γ vs)[i]? = some s → s = .no
  | v :: vs, h, e => by
    unfold wipeD at e
    by_cases ev : v = i
    · subst ev
      rw [List.getElem?_set] at e
      simp only [if_true] at e
      split at e
      · exact (Option.some.inj e).symm
      · cases e
    · rw [List.getElem?_set_ne ev] at e
      refine wipeD_in ?_ e
      rcases List.mem_cons.mp h with z | z
      · exact absurd z.symm ev
      · exact z
theorem noOwn_at {vs : List Nat} (h : noOwn Γ vs = true) {i : Nat} {s : Sl} (hi : i ∈ vs) (e : Γ[i]? = some s) : s.own = false := by
  have := List.all_eq_true.mp h i hi
  unfold ownAt at this
  rw [e] at this
  simpa using this
theorem Rep.wiped (R : Rep E P H σ Γ) (vs : List Nat) : Rep E P H (wipe σ vs) (wipeD Γ vs) where
  sub := R.sub
  p0 := R.p0
  h0 := R.h0
  dm := R.dm
  new := R.new
  len := by rw [wipe_length, wipeD_length]; exact R.len
  sl := fun i s o e1 e2 => by
    by_cases hi : i ∈ vs
    · rw [wipeD_in hi e1]; trivial
    · rw [wipeD_other hi] at e1; rw [wipe_other hi] at e2; exact R.sl i s o e1 e2
  dj := fun i j a si sj hn h1 h2 h3 h4 h5 h6 => by
    have n1 : i ∉ vs := fun z => by rw [wipeD_in z h1] at h2; cases h2
    have n2 : j ∉ vs := fun z => by rw [wipeD_in z h4] at h5; cases h5
    rw [wipeD_other n1] at h1; rw [wipe_other n1] at h3; rw [wipeD_other n2] at h4; rw [wipe_other n2] at h6
    exact R.dj i j a si sj hn h1 h2 h3 h4 h5 h6
  ow := fun a ⟨i, s, h1, h2, h3⟩ => by
    have n1 : i ∉ vs := fun z => by rw [wipeD_in z h1] at h2; cases h2
    rw [wipeD_other n1] at h1; rw [wipe_other n1] at h3
    exact R.ow a ⟨i, s, h1, h2, h3⟩
theorem Rep.unwipe {σ2 : L2.St} {Γ2 : DS} {vs : List Nat} (R : Rep E P H σ Γ) (R2 : Rep E P' H' σ2 Γ2) (s : Same P P') (hw : wipe σ2 vs = wipe σ vs) (hd : wipeD Γ2 vs = wipeD Γ vs) (no : noOwn Γ vs = true) : Rep E P' H' σ Γ := by
  have c1 : ∀ i, i ∉ vs → Γ[i]? = Γ2[i]? := fun i hi => by rw [← wipeD_other (Γ := Γ) hi, ← hd, wipeD_other hi]
  have c2 : ∀ i, i ∉ vs → σ[i]? = σ2[i]? := fun i hi => by rw [← wipe_other (σ := σ) hi, ← hw, wipe_other hi]
  have c3 : ∀ (i : Nat) (t : Sl), Γ[i]? = some t → t.own = true → i ∉ vs := fun i t e o hi => by rw [noOwn_at no hi e] at o; cases o
  refine ⟨R2.sub, R2.p0, R2.h0, R2.dm, R2.new, R.len, fun i t o e1 e2 => ?_, fun i j a si sj hn h1 h2 h3 h4 h5 h6 => ?_, fun a ⟨i, t, h1, h2, h3⟩ => ?_⟩
  · by_cases hi : i ∈ vs
    · have q := R.sl i t o e1 e2
      have o' := noOwn_at no hi e1
      cases t with
      | no => trivial
      | d x => obtain ⟨v, e, q⟩ := q; exact ⟨v, e, q.mono s⟩
      | m _ => cases o'
      | md _ _ => cases o'
      | mo _ _ _ _ _ => cases o'
    · rw [c1 i hi] at e1; rw [c2 i hi] at e2; exact R2.sl i t o e1 e2
  · have n1 := c3 i si h1 h2
    have n2 := c3 j sj h4 h5
    rw [c1 i n1] at h1; rw [c2 i n1] at h3; rw [c1 j n2] at h4; rw [c2 j n2] at h6
    exact R2.dj i j a si sj hn h1 h2 h3 h4 h5 h6
  · have n1 := c3 i t h1 h2
    rw [c1 i n1] at h1; rw [c2 i n1] at h3
    exact R2.ow a ⟨i, t, h1, h2, h3⟩
@[simp] def dYes : DT := fun x Γ Q => Q true Γ
theorem dts_nil : PTs X [] (upT E W dYes) := ⟨fun pins s σ H Q I h => by
  obtain ⟨P, Γ, x, Qd, R, hT, hx, hQ⟩ := h
  exact pts_nil.run pins s σ H Q I (hQ _ _ _ _ .refl R hT)⟩
theorem dts_one {c : Expr} {t : DT} (h : PT X c (upT E W t)) : PTs X [c] (upT E W t) := pts_one h
@[simp] def dLcL (g : DG) (tt : DT) (te : DE) (vs : List Nat) (Γ : DS) (Q : List D → DS → Prop) : List D → List D → Prop
  | [], acc => Q acc Γ
  | d :: ds, acc => g d (wipeD Γ vs) fun Γ2 => wipeD Γ2 vs = wipeD Γ vs ∧ tt (fun _ _ => False) Γ2 fun k Γ3 => Γ3 = Γ2 ∧ if k = true then te (fun _ _ => False) Γ3 fun y Γ4 => Γ4 = Γ3 ∧ acc.length < sizeLine ∧ dLcL g tt te vs Γ Q ds (acc ++ [y]) else dLcL g tt te vs Γ Q ds acc
@[simp] def dLc (ti : DI) (g : DG) (tt : DT) (te : DE) (vs : List Nat) : DF := fun x Γ Q => ti x Γ fun ds Γ1 => noOwn Γ1 vs = true ∧ dLcL g tt te vs Γ1 Q ds []
theorem fresh_noOwn (R : Rep E P H σ Γ) {a : Addr} (h : H a = none) : ¬ Own σ Γ a := fun ⟨i, s, e1, e2, e3⟩ => by
  have q := R.sl i s _ e1 e3
  cases s with
  | no => cases e2
  | d _ => cases e2
  | m _ => obtain ⟨b, xs, e, _, n2, _⟩ := q; cases e; rw [h] at n2; cases n2
  | md _ _ => obtain ⟨b, xs, e, _, n2, _⟩ := q; cases e; rw [h] at n2; cases n2
  | mo _ _ _ _ _ => obtain ⟨xs, e, _, n2, _⟩ := q; cases e; rw [h] at n2; cases n2
theorem Rep.poke (R : Rep E P H σ Γ) {a : Addr} {o : HO} (h : P a = none) (h0 : E.H0 a = none) (no : ¬ Own σ Γ a) : Rep E P (upd H a o) σ Γ where
  sub := fun b u q => by
    have e : b ≠ a := fun z => by subst z; rw [h] at q; cases q
    rw [upd_ne e]; exact R.sub b u q
  p0 := R.p0
  h0 := fun b u q n => by
    have e : b ≠ a := fun z => by subst z; rw [h0] at q; cases q
    rw [upd_ne e]; exact R.h0 b u q n
  dm := fun b u q => by
    have e : b ≠ a := fun z => by subst z; rw [h0] at q; cases q
    rw [upd_ne e]; exact R.dm b u q
  new := R.new
  len := R.len
  sl := fun i s oo e1 e2 => by
    have q := R.sl i s oo e1 e2
    cases s with
    | no => trivial
    | d x => exact q
    | m ds => obtain ⟨b, xs, e, n1, n2, q⟩ := q; exact ⟨b, xs, e, n1, by rw [upd_ne fun z => no ⟨i, _, e1, rfl, by rw [e2, e, z]⟩]; exact n2, q⟩
    | md ks ds => obtain ⟨b, xs, e, n1, n2, q⟩ := q; exact ⟨b, xs, e, n1, by rw [upd_ne fun z => no ⟨i, _, e1, rfl, by rw [e2, e, z]⟩]; exact n2, q⟩
    | mo b dx c ns ds => obtain ⟨xs, e, n1, n2, q⟩ := q; exact ⟨xs, e, n1, by rw [upd_ne fun z => no ⟨i, _, e1, rfl, by rw [e2, e, z]⟩]; exact n2, q⟩
  dj := R.dj
  ow := R.ow
theorem wipe_wipe (vs : List Nat) : wipe (wipe σ vs) vs = wipe σ vs := by
  apply List.ext_getElem?
  intro j
  by_cases hj : j ∈ vs
  · have l1 : (wipe (wipe σ vs) vs).length = σ.length := by rw [wipe_length, wipe_length]
    have l2 : (wipe σ vs).length = σ.length := wipe_length _ _
    cases e1 : (wipe (wipe σ vs) vs)[j]? with
    | none =>
      have := List.getElem?_eq_none_iff.mp e1
      rw [List.getElem?_eq_none (by omega)]
    | some o =>
      cases o with
      | some z => exact absurd hj (wipe_some e1).2
      | none =>
        have hl := (List.getElem?_eq_some_iff.mp e1).1
        cases e2 : (wipe σ vs)[j]? with
        | none => have := List.getElem?_eq_none_iff.mp e2; omega
        | some o2 =>
          cases o2 with
          | none => rfl
          | some z => exact absurd hj (wipe_some e2).2
  · rw [wipe_other hj]
theorem lc_go {ti : DI} {ts : List Nat} {g : DG} {tt : DT} {te : DE} {vs : List Nat} {Q : VK} (hts : ∀ i ∈ ts, i ∈ vs)
    (h : upF E W (dLc ti g tt te vs) σ H Q) : tLc (upI E W ti) (upG E ts g) (upT E (fun _ _ _ _ => False) tt) (up E (fun _ _ _ _ => False) te) vs σ H Q := by
  obtain ⟨P, Γ, x, Qd, R, hT, hx, hQ⟩ := h
  refine ⟨P, Γ, x, _, R, hT, hx, fun ds Γ1 P1 H1 J g1 R1 it h1 => ?_⟩
  obtain ⟨hno, h1⟩ := h1
  intro D hD
  have nD : ¬ Own σ Γ1 D := fresh_noOwn R1 hD
  have pD : P1 D = none := R1.pnone hD
  have zD : E.H0 D = none := R1.h0none hD
  have XF : ∀ σ', XL E (fun _ _ _ _ => False) σ' (fun _ _ => False) := fun σ' e Γ' P' H' cls d _ _ z => z
  -- what stands at a turn
  refine ⟨fun i m H2 => m = ds.length - i ∧ ∃ P2 acc vacc, Same P1 P2 ∧ (∀ a o, H1 a = some o → ¬ Own σ Γ1 a → H2 a = some o) ∧ (∀ a o, H1 a = some o → ∃ o', H2 a = some o') ∧ (∀ a o, P2 a = some o → (∃ o', P1 a = some o') ∨ H1 a = none) ∧
      Rep E P2 H2 σ Γ1 ∧ P2 D = none ∧ H2 D = some (.lst vacc) ∧ IsA E.K E.cl P2 acc vacc ∧ dLcL g tt te vs Γ1 Qd (ds.drop i) acc, ⟨_, rfl, P1, [], [], Same.refl _, fun a o q _ => same_upd hD a o q, fun a o q => ⟨o, same_upd hD a o q⟩, fun a o q => .inl ⟨o, q⟩, R1.fresh _ hD, pD, upd_same, .nil, h1⟩, ?_⟩
  rintro i m H2 ⟨rfl, P2, acc, vacc, s2, k2, dm2, n2, R2, pD2, hD2, ia2, h2⟩
  obtain ⟨i1, i2⟩ := it P2 H2 s2 R2.sub
  by_cases hlt : i < ds.length
  · obtain ⟨go, yl⟩ := i2 i _ (List.getElem?_eq_getElem hlt)
    rw [List.drop_eq_getElem_cons hlt] at h2
    refine .inr ⟨go, fun H' => ∃ P2 acc vacc, Same P1 P2 ∧ (∀ a o, H1 a = some o → ¬ Own σ Γ1 a → H' a = some o) ∧ (∀ a o, H1 a = some o → ∃ o', H' a = some o') ∧ (∀ a o, P2 a = some o → (∃ o', P1 a = some o') ∨ H1 a = none) ∧
      Rep E P2 H' σ Γ1 ∧ P2 D = none ∧ H' D = some (.lst vacc) ∧ IsA E.K E.cl P2 acc vacc ∧ dLcL g tt te vs Γ1 Qd (ds.drop (i + 1)) acc, fun H' z => ⟨_, by omega, rfl, z⟩, fun y H3 hy => ?_⟩
    obtain ⟨P3, bk, iy⟩ := yl y H3 hy
    have R3 : Rep E P3 H3 (wipe σ vs) (wipeD Γ1 vs) := (R2.back bk).wiped vs
    refine ⟨P3, wipeD Γ1 vs, _, _, R3, iy, h2, fun σ4 Γ4 R4 o4 w4 q4 => ?_⟩
    obtain ⟨wd4, q4⟩ := q4
    have ww4 : wipe σ4 vs = wipe σ vs := (w4 vs hts).trans (wipe_wipe vs)
    refine ⟨ww4, P3, Γ4, _, _, R4, q4, XF _, fun k Γ5 P5 H5 g5 R5 q5 => ?_⟩
    obtain ⟨rfl, q5⟩ := q5
    -- what stands behind the test
    have noD4 : ¬ Own σ4 Γ5 D := fun z => by
      obtain ⟨j, t, e1, e2, e3⟩ := o4 D z
      have nj : j ∉ vs := fun zz => by rw [wipeD_in zz e1] at e2; cases e2
      rw [wipeD_other nj] at e1; rw [wipe_other nj] at e3
      exact nD ⟨j, t, e1, e2, e3⟩
    have pD3 : P3 D = none := by
      cases z : P3 D with
      | none => rfl
      | some u =>
        rcases bk.n D u z with ⟨_, e⟩ | e
        · rw [pD2] at e; cases e
        · rw [hD2] at e; cases e
    have step : ∀ {σa : L2.St} {Γa : DS} {Pa Ha : Hp}, Gr σ4 Γ5 P3 H3 Γa Pa Ha → Same P1 Pa ∧ (∀ a o, H1 a = some o → ¬ Own σ Γ1 a → Ha a = some o) ∧ (∀ a o, H1 a = some o → ∃ o', Ha a = some o') ∧ (∀ a o, Pa a = some o → (∃ o', P1 a = some o') ∨ H1 a = none ∨ Own σ4 Γ5 a) ∧ Pa D = none ∧ Ha D = some (.lst vacc) := fun {σa Γa Pa Ha} gg => by
      refine ⟨s2.trans (bk.p.trans gg.p), fun a o q no => gg.k a o (bk.h a o (k2 a o q no)) fun z => no ?_, fun a o q => ?_, fun a o q => ?_, ?_, gg.k D _ (bk.h D _ hD2) noD4⟩
      · obtain ⟨j, t, e1, e2, e3⟩ := o4 a z
        have nj : j ∉ vs := fun zz => by rw [wipeD_in zz e1] at e2; cases e2
        rw [wipeD_other nj] at e1; rw [wipe_other nj] at e3
        exact ⟨j, t, e1, e2, e3⟩
      · obtain ⟨o1, e1⟩ := dm2 a o q
        exact gg.dm a o1 (bk.h a o1 e1)
      · rcases gg.n a o q with ⟨o', e⟩ | e | ⟨e, _⟩
        · rcases bk.n a o' e with ⟨o2, e⟩ | e
          · rcases n2 a o2 e with e | e
            · exact .inl e
            · exact .inr (.inl e)
          · refine .inr (.inl ?_)
            exact none_of_dm dm2 e
        · refine .inr (.inl ?_)
          exact none_of_dm dm2 (none_of_dm (fun a o q => ⟨o, bk.h a o q⟩) e)
        · exact .inr (.inr e)
      · cases z : Pa D with
        | none => rfl
        | some u =>
          rcases gg.n D u z with ⟨_, e⟩ | e | ⟨e, _⟩
          · rw [pD3] at e; cases e
          · rw [bk.h D _ hD2] at e; cases e
          · exact absurd e noD4
    -- nothing was frozen: the slots stay
    have unf : ∀ {Pa Ha : Hp}, Gr σ4 Γ5 P3 H3 Γ5 Pa Ha → ∀ a o, Pa a = some o → (∃ o', P1 a = some o') ∨ H1 a = none := fun {Pa Ha} gg a o q => by
      rcases gg.n a o q with ⟨o', e⟩ | e | ⟨e, e'⟩
      · rcases bk.n a o' e with ⟨o2, e⟩ | e
        · exact n2 a o2 e
        · exact .inr (none_of_dm dm2 e)
      · exact .inr (none_of_dm dm2 (none_of_dm (fun a o q => ⟨o, bk.h a o q⟩) e))
      · exact absurd e e'
    cases k with
    | false =>
      rw [if_neg Bool.false_ne_true] at q5 ⊢
      obtain ⟨z1, z2, z3, _, z5, z6⟩ := step (σa := σ4) g5
      exact ⟨P5, acc, vacc, z1, z2, z3, unf g5, R2.unwipe R5 (bk.p.trans g5.p) ww4 wd4 hno, z5, z6, ia2.mono (bk.p.trans g5.p), q5⟩
    | true =>
      rw [if_pos rfl] at q5 ⊢
      refine ⟨P5, Γ5, _, _, R5, q5, XF _, fun yd Γ6 yv P6 H6 g6 R6 iy6 q6 => ?_⟩
      obtain ⟨rfl, hl, q6⟩ := q6
      have gg := g5.trans g6
      obtain ⟨z1, z2, z3, _, z5, z6⟩ := step (σa := σ4) gg
      have R7 := R2.unwipe R6 (bk.p.trans gg.p) ww4 wd4 hno
      refine ⟨vacc, z6, by rw [ia2.length]; exact hl, P6, acc ++ [yd], vacc ++ [yv], z1, fun a o q no => ?_, fun a o q => ?_, unf gg, R7.poke z5 zD nD, z5, upd_same, (ia2.mono (bk.p.trans gg.p)).append (.cons iy6 .nil), q6⟩
      · rw [upd_ne fun z => by subst z; rw [hD] at q; cases q]
        exact z2 a o q no
      · rw [upd_ne fun z => by subst z; rw [hD] at q; cases q]
        exact z3 a o q
  · have hle : ds.length ≤ i := by omega
    rw [List.drop_eq_nil_of_le hle] at h2
    refine .inl ⟨i1 i hle, ?_⟩
    refine hQ acc Γ1 D vacc P2 H2 (g1.trans ⟨s2, fun a o q => (n2 a o q).elim .inl fun z => .inr (.inl z), k2, dm2, fun _ z => z⟩) R2 pD2 (none_of_dm g1.dm hD) zD hD2 ia2 h2
theorem df_lc {elt tg iter : Expr} {ifs : List Expr} {scope : Scope} {own : List (Str × Nat)} {pos : Pos} {ti : DI} {ts : List Nat} {g : DG} {tt : DT} {te : DE} (hc : X.calm = true) (hN : X.N.Nodup) (hts : ∀ i ∈ ts, i ∈ own.map (·.2)) (hi : PI X tg iter (upI E W ti)) (ok : BlkOk X.N X.env.scope scope own)
    (hg : ∀ (s : Shared) (H : Hp) (C : Addr) (cl : List (Str × Addr)) (fp : List Addr), PG (X.blk s H scope (compEnvC scope cl C X.env) fp) tg (upG E ts g)) (ht : ∀ (s : Shared) (H : Hp) (C : Addr) (cl : List (Str × Addr)) (fp : List Addr), PTs (X.blk s H scope (compEnvC scope cl C X.env) fp) ifs (upT E (fun _ _ _ _ => False) tt))
    (he : ∀ (s : Shared) (H : Hp) (C : Addr) (cl : List (Str × Addr)) (fp : List Addr), PE (X.blk s H scope (compEnvC scope cl C X.env) fp) elt (up E (fun _ _ _ _ => False) te)) (hs : ∀ x, foldedSetIterable iter X.env x = pure x := by intro _; rfl) :
    PE X (.ListComp elt [⟨tg, iter, ifs, 0⟩] scope pos) (upF E W (dLc ti g tt te (own.map (·.2)))) := impE (pe_lc hc hN hi ok hg ht he hs) fun _ _ _ h => lc_go hts h
end
end DL

namespace DL
open PySem L2 PySem.Calls

section
variable {E : DC} {W : WX} {P P' H H' : Hp} {σ σ' : L2.St} {Γ Γ' : List Sl} {X : Cx}
@[simp] def dFmt (te : DE) : DE := fun x Γ Q => te x Γ fun d Γ1 => match d with
  | .v (.str y) => y.length ≤ sizeLine ∧ Q (.v (.str y)) Γ1
  | .v (.int i) => i.natAbs.log2 < 1920 ∧ Q (.v (.str (toString i))) Γ1
  | _ => False
variable {a b c e o : Expr} {es : List Expr} {ta tb tc te : DE} {pos p apos : Pos} {tas : DA}
theorem de_fmt (he : PE X e (up E W te)) : PE X (.FormattedValue e (-1) none pos) (up E W (dFmt te)) := impE (pe_fmt he) fun σ H Q h => by
  obtain ⟨P, Γ, x, Qd, R, hT, hx, hQ⟩ := h
  refine ⟨P, Γ, x, _, R, hT, hx, fun d Γ1 v P1 H1 g1 R1 i1 h1 => ?_⟩
  split at h1
  · exact .inl ⟨_, i1.v_inv, h1.1, hQ _ _ _ _ _ g1 R1 .v h1.2⟩
  · exact .inr ⟨_, i1.v_inv, h1.1, hQ _ _ _ _ _ g1 R1 .v h1.2⟩
  · exact h1.elim
inductive PJD (X : Cx) (E : DC) (W : WX) : List Expr → List DE → Prop where
  | nil : PJD X E W [] []
  | cons {e : Expr} {t : DE} {es : List Expr} {ts : List DE} (h : PE X e (up E W t)) (r : PJD X E W es ts) : PJD X E W (e :: es) (t :: ts)
theorem PJD.pj {es : List Expr} {ts : List DE} (h : PJD X E W es ts) : PJ X es (ts.map (up E W)) := by
  induction h with
  | nil => exact .nil
  | cons h _ ih => exact .cons h ih
@[simp] def dJs : List DE → Str → XC → DS → (Str → DS → Prop) → Prop
  | [], acc, _, Γ, Q => Q acc Γ
  | t :: ts, acc, x, Γ, Q => t x Γ fun d Γ1 => match d with
    | .v (.str y) => (acc ++ y).length ≤ sizeLine ∧ dJs ts (acc ++ y) x Γ1 Q
    | _ => False
@[simp] def dJoined (ts : List DE) : DE := fun x Γ Q => dJs ts Str.empty x Γ fun out Γ1 => Q (.v (.str out)) Γ1
theorem up_js {x : XC} (hx : XL E W σ x) : ∀ (ts : List DE) (acc : Str) (P H : Hp) (Γ : DS) (Qd : Str → DS → Prop) (Q : Str → Hp → Prop), Rep E P H σ Γ → dJs ts acc x Γ Qd →
    (∀ y Γ' P' H', Gr σ Γ P H Γ' P' H' → Rep E P' H' σ Γ' → Qd y Γ' → Q y H') → tJs (ts.map (up E W)) acc σ H Q
  | [], acc, P, H, Γ, Qd, Q, R, h, hQ => hQ _ _ _ _ .refl R h
  | t :: ts, acc, P, H, Γ, Qd, Q, R, h, hQ => by
    refine ⟨P, Γ, x, _, R, h, hx, fun d Γ1 v P1 H1 g1 R1 i1 h1 => ?_⟩
    split at h1
    · exact ⟨_, i1.v_inv, h1.1, up_js hx ts _ P1 H1 Γ1 Qd Q R1 h1.2 fun y Γ' P' H' g R' q => hQ _ _ _ _ (g1.trans g) R' q⟩
    · exact h1.elim
theorem de_joined {v1 v2 : Expr} {rest : List Expr} {ts : List DE} (h : PJD X E W (v1 :: v2 :: rest) ts) : PE X (.JoinedStr (v1 :: v2 :: rest) pos) (up E W (dJoined ts)) := impE (pe_joined h.pj) fun σ H Q h => by
  obtain ⟨P, Γ, x, Qd, R, hT, hx, hQ⟩ := h
  exact up_js hx ts _ P H Γ _ _ R hT fun y Γ' P' H' g R' q => hQ _ _ _ _ _ g R' .v q
theorem de_joined1 (he : PE X e (up E W te)) : PE X (.JoinedStr [e] pos) (up E W te) := pe_joined1 he
@[simp] def dSM (R : Str → List D → (D → Prop) → Prop) (ta : DE) (t : DA) : DE := fun x Γ Q => ta x Γ fun d Γ1 => match d with
  | .v (.str s) => t x Γ1 fun ds Γ2 => R s ds fun d => Q d Γ2
  | _ => False
def LkS (E : DC) (r : V → List V → Hp → VK → Prop) (R : Str → List D → (D → Prop) → Prop) : Prop := ∀ (P H : Hp) (σ : L2.St) (Γ : List Sl) (s : Str) (ds : List D) (vs : List V) (Q : VK) (Qd : D → Prop), Rep E P H σ Γ → IsA E.K E.cl P ds vs → R s ds Qd →
  (∀ d v P' H', Gr σ Γ P H Γ P' H' → Rep E P' H' σ Γ → Is E.K E.cl P' d v → Qd d → Q v H') → r (.str s) vs H Q
variable {id : String} {name : Str} {r : V → List V → Hp → VK → Prop} {R : Str → List D → (D → Prop) → Prop}
theorem de_sm (slot : Slot "str" name id) (hty : typeOf (.builtin id) = pure (.type "method_descriptor")) (hm : MtR X id r) (L : LkS E r R) (ho : PE X o (up E W ta)) (ha : PA X (e :: es) (upA E W tas))
    (hbase : attributeBase o name X.env (eval o X.env) = eval o X.env := by rfl)
    (hfew : ((backTo pos (starEach (e :: es) X.env)).all (fun x => !x.1) && (backToKw pos (keywordEach [] X.env)).all (fun x => x.1.isSome)
      && decide ((e :: es).length + ([] : List Keyword).length + (if ([] : List Keyword).isEmpty then 0 else 1) < 30)) = true := by rfl)
    (hline : (apos.endLine == pos.line) = true := by rfl) (hs : starEach (e :: es) X.env = (false, eval e X.env) :: starEach es X.env := by rfl) (hplain : (backTo pos (starEach es X.env)).any (·.1) = false := by rfl) :
    PE X (.Call (.Attribute o name apos) (e :: es) [] pos) (up E W (dSM R ta tas)) :=
  impE (pe_bm PySem.F.plainAttrs_str slot hty hm ho ha hbase hfew hline hs hplain) fun σ H Q h => by
    obtain ⟨P, Γ, x, Qd, Rp, hT, hx, hQ⟩ := h
    refine ⟨P, Γ, x, _, Rp, hT, hx, fun d Γ1 v P1 H1 g1 R1 i1 h1 => ?_⟩
    split at h1
    · rw [i1.v_inv]
      refine ⟨rfl, P1, Γ1, x, _, R1, h1, hx, fun ds Γ2 vs P2 H2 g2 R2 i2 h2 => ?_⟩
      exact L P2 H2 σ Γ2 _ ds vs Q _ R2 i2 h2 fun d v P3 H3 g3 R3 i3 h3 => hQ d Γ2 v P3 H3 (g1.trans (g2.trans g3)) R3 i3 h3
    · exact h1.elim
@[simp] def dJoin : Str → List D → (D → Prop) → Prop := fun s ds Q => match ds with
  | [.lst ds] => match strsD ds with
    | some ys => (ys.map (·.length)).sum + ys.length * s.length ≤ 16777216 ∧ Q (.v (.str (Txt.join s ys)))
    | none => False
  | [.tup ds] => match strsD ds with
    | some ys => (ys.map (·.length)).sum + ys.length * s.length ≤ 16777216 ∧ Q (.v (.str (Txt.join s ys)))
    | none => False
  | _ => False
theorem lk_join : LkS E (fun x xs H Q => ∃ a p, ∃ ys : List Str, x = .str a ∧ xs = [.ref p] ∧ (SqL E.K H p (ys.map V.str) ∨ SqT E.K H p (ys.map V.str)) ∧
    (ys.map (·.length)).sum + ys.length * a.length ≤ 16777216 ∧ Q (.str (Txt.join a ys)) H) dJoin := by
  intro P H σ Γ s ds vs Q Qd R i hr hQ
  unfold dJoin at hr
  split at hr
  · obtain ⟨x, rfl, i1⟩ := i.one
    obtain ⟨p, xs, rfl, hp, hx⟩ := i1.lst_inv
    split at hr
    · rename_i e
      rw [strsD_eq e] at hx
      obtain rfl := hx.atoms
      exact ⟨s, p, _, rfl, rfl, .inl (.of (R.sub _ _ hp)), hr.1, hQ _ _ P H .refl R .v hr.2⟩
    · exact hr.elim
  · obtain ⟨x, rfl, i1⟩ := i.one
    obtain ⟨p, xs, rfl, hp, hx⟩ := i1.tup_inv
    split at hr
    · rename_i e
      rw [strsD_eq e] at hx
      obtain rfl := hx.atoms
      exact ⟨s, p, _, rfl, rfl, .inr (sqT_mono R.sub hp), hr.1, hQ _ _ P H .refl R .v hr.2⟩
    · exact hr.elim
  · exact hr.elim
theorem mtJoin (hK : X.K = E.K) : MtR X "str.join" (fun x xs H Q => ∃ a p, ∃ ys : List Str, x = .str a ∧ xs = [.ref p] ∧ (SqL E.K H p (ys.map V.str) ∨ SqT E.K H p (ys.map V.str)) ∧
    (ys.map (·.length)).sum + ys.length * a.length ≤ 16777216 ∧ Q (.str (Txt.join a ys)) H) := by rw [← hK]; exact mt_join

theorem start_rep {K : PySem.W.Frag} {cl : Nat → Addr} {ds : List D} {vs : List V} (s : Same P H) (i : IsA K cl P ds vs) (N : List Str) (hl : vs.length ≤ N.length) :
    Rep ⟨K, cl, P, H, []⟩ P H (L2.start N vs) (ds.map Sl.d ++ List.replicate (N.length - ds.length) .no) where
  sub := s
  p0 := Same.refl P
  h0 := fun a o e _ => e
  dm := fun a o e => ⟨o, e⟩
  new := fun a o e => .inl ⟨o, e⟩
  len := by unfold L2.start; simp only [List.length_append, List.length_map, List.length_replicate]; rw [i.length]
  sl := fun j t o e1 e2 => by
    by_cases hj : j < ds.length
    · rw [List.getElem?_append_left (by simpa using hj)] at e1
      unfold L2.start at e2
      rw [List.getElem?_append_left (by simpa [i.length] using hj)] at e2
      rw [List.getElem?_map] at e1 e2
      cases hd : ds[j]? with
      | none => rw [hd] at e1; cases e1
      | some d =>
        rw [hd] at e1; cases e1
        obtain ⟨v, h1, h2⟩ := i.get hd
        rw [h1] at e2; cases e2
        exact ⟨v, rfl, h2⟩
    · have hl2 : (ds.map Sl.d).length ≤ j := by rw [List.length_map]; omega
      rw [List.getElem?_append_right hl2] at e1
      rw [List.getElem?_replicate] at e1
      split at e1
      · cases e1; trivial
      · cases e1
  dj := fun i' j a si sj hn h1 h2 h3 => by
    exfalso
    have : si ∈ ds.map Sl.d ++ List.replicate (N.length - ds.length) Sl.no := List.mem_of_getElem? h1
    rcases List.mem_append.mp this with z | z
    · obtain ⟨d, _, rfl⟩ := List.mem_map.mp z; cases h2
    · rw [(List.mem_replicate.mp z).2] at h2; cases h2
  ow := fun a ⟨i', si, h1, h2, h3⟩ => by
    exfalso
    have : si ∈ ds.map Sl.d ++ List.replicate (N.length - ds.length) Sl.no := List.mem_of_getElem? h1
    rcases List.mem_append.mp this with z | z
    · obtain ⟨d, _, rfl⟩ := List.mem_map.mp z; cases h2
    · rw [(List.mem_replicate.mp z).2] at h2; cases h2
theorem Rep.toBack {K : PySem.W.Frag} {cl : Nat → Addr} {P0 H0 : Hp} (R : Rep ⟨K, cl, P0, H0, []⟩ P H σ Γ) : Back P0 H0 P H :=
  ⟨R.p0, R.sub, fun a o e => R.h0 a o e (by simp), R.new⟩
abbrev WD (Ex : XK) : WX := fun cls d _ H => Ex cls d H
@[simp] def entry (n : Nat) (ds : List D) : DS := ds.map Sl.d ++ List.replicate (n - ds.length) .no
@[simp] def conE (Q : D → Prop) (R : XD → Prop) : DEnds := { nx := fun _ => Q (.v .non), rt := fun d _ => Q d, ex := fun e _ => R e }
theorem okD {P : Program} {w : World} {K : PySem.W.Frag} {mg : Str → Option Value} {base : Heap} {cl : Nat → Addr} {x qual : Str} {st : Stmt} {f : Addr} {fd : FuncData} {N ps : List Str} {k : Nat} {C : Con}
    (F : FunX K x qual st f fd) (S : FnScope N ps (defScope st)) (hps : ps.length ≤ N.length) (hl : ∀ ds Q R, C ds Q R → ds.length = ps.length)
    (hbody : ∀ (cdv : Value) (A : Around) (outer : List Env) (s : Shared) (H : Hp) (E : DC) (Ex : XK), E.K = K → E.cl = cl → A.guards = some [] → Room k (A.deeper (PyProof.Rows.envOfC qual (defScope st) s.heap.objs.size f cdv)) →
      ∃ t, PSs (cxOf (L2.CX P w) P w K mg base N qual (defScope st) f cdv A outer s H Ex) (defBody st) (upS E (WD Ex) t) ∧ ∀ ds Q R, C ds Q R → t (conE Q R) (entry N.length ds)) : FnG P w K mg base (k + 1) f fd ps (spD K cl C) := by
  refine FnG.body F S (fun vs H Q E h => ?_) (fun cdv A outer s H vs Q Ex hG hr h => ?_)
  · obtain ⟨P, ds, Qd, Xd, s, i, c, _⟩ := h
    rw [i.length]; exact hl _ _ _ c
  · obtain ⟨P', ds, Qd, Xd, s', i, c, h1, h2⟩ := h
    obtain ⟨t, ht, hq⟩ := hbody cdv A outer s H ⟨K, cl, P', H, []⟩ Ex rfl rfl hG hr
    have hvl : vs.length ≤ N.length := by rw [i.length, hl _ _ _ c]; exact hps
    refine ⟨_, ht, P', _, _, start_rep s' i N hvl, hq ds Qd Xd c, ⟨fun σ' Γ' P2 H2 s2 R2 q => ?_, fun d v σ' Γ' P2 H2 s2 R2 i2 q => ?_, fun _ _ _ _ _ _ z => z.elim, fun _ _ _ _ _ _ z => z.elim, fun σ' e Γ' P2 H2 cls d R2 xi q => ?_⟩⟩
    · exact h1 _ _ _ _ R2.toBack .v q
    · exact h1 _ _ _ _ R2.toBack i2 q
    · exact h2 _ _ _ _ _ R2.toBack xi q
theorem FnG.con {P : Program} {w : World} {K : PySem.W.Frag} {mg : Str → Option Value} {base : Heap} {cl : Nat → Addr} {f : Addr} {fd : FuncData} {ps : List Str} {k : Nat} {C C' : Con} (h : FnG P w K mg base k f fd ps (spD K cl C)) (hc : ∀ ds Q R, C' ds Q R → C ds Q R) : FnG P w K mg base k f fd ps (spD K cl C') :=
  h.imp fun vs H Q X ⟨P, ds, Qd, Xd, s, i, c, h1, h2⟩ => ⟨P, ds, Qd, Xd, s, i, hc _ _ _ c, h1, h2⟩
theorem ok_never {P : Program} {w : World} {K : PySem.W.Frag} {mg : Str → Option Value} {base : Heap} {cl : Nat → Addr} {f : Addr} {fd : FuncData} {ps : List Str} {k : Nat} {C : Con} (h : ∀ ds Q R, ¬ C ds Q R) : FnG P w K mg base k f fd ps (spD K cl C) :=
  ⟨fun vs H Q X ⟨_, _, _, _, _, _, c, _⟩ => absurd c (h _ _ _), fun A outer s H args us vs Q X _ _ _ _ _ ⟨_, _, _, _, _, _, c, _⟩ => absurd c (h _ _ _)⟩
theorem tkB {P : Program} {w : World} {K : PySem.W.Frag} {mg : Str → Option Value} {base : Heap} {N : List Str} {qual : Str} {scope : Scope} {f : Addr} {cd : Value} {A : Around} {outer : List Env} {s : Shared} {H : Hp} {Ex : XK} : Takes (cxOf (L2.CX P w) P w K mg base N qual scope f cd A outer s H Ex) (WD Ex) := takes_of rfl rfl rfl rfl
end
end DL

namespace DL
open PySem L2

section
variable {X : Cx} {pins : List (Addr × Obj)} {σ : L2.St} {H : Hp} {s : Shared}
theorem upd_id {H : Hp} {a : Addr} {o : HO} (h : H a = some o) : upd H a o = H := by
  funext b
  by_cases e : b = a
  · subst e; rw [upd_same, h]
  · rw [upd_ne e]
theorem Inv.retrack (I : Inv X pins σ H s) {a : Addr} {o : HO} (mu : Mut (H a)) (hn : ObjOk X.prog X.w (upd H a o) s.heap a o) : Inv X pins σ (upd H a o) s :=
  Inv.write (x := a) (e := a) (t' := s.toks) (h' := s.heap) I mu (.inl rfl) (fun _ _ _ q => q) (objOk_get hn) hn
theorem vals3 {x y c : Int} {t u r : Tok} : Vals [.int x, .int y, .int c] [.int x t, .int y u, .int c r] := .cons ⟨t, rfl⟩ (.cons ⟨u, rfl⟩ (.cons ⟨r, rfl⟩ .nil))
theorem three_line : ([V.int 0, V.int 0, V.int 0] : List V).length ≤ sizeLine := by rw [sizeLine_eq]; decide
theorem Inv.openStk (I : Inv X pins σ H s) {a : Addr} (h : H a = some (stkO a)) : ∃ x y c : Int, 0 ≤ x ∧ 0 ≤ y ∧ y < 2147483648 ∧ 0 ≤ c ∧ Inv X pins σ (upd H a (.lst [.int x, .int y, .int c])) s := by
  obtain ⟨⟨x, y, c, t, u, r, n, e, h1, h2, h3, h4⟩, _, _⟩ := (show ObjOk X.prog X.w H s.heap a (stkO a) from I.hok a _ h)
  refine ⟨x, y, c, h1, h2, h3, h4, Inv.retrack I (by rw [h]; trivial) ⟨three_line, _, n, vals3, e⟩⟩
theorem Inv.closeStk (I : Inv X pins σ H s) {a : Addr} {x y c : Int} (h : H a = some (.lst [.int x, .int y, .int c])) (h1 : 0 ≤ x) (h2 : 0 ≤ y) (h3 : y < 2147483648) (h4 : 0 ≤ c) : Inv X pins σ (upd H a (stkO a)) s := by
  obtain ⟨_, its, n, r, e⟩ := (show ObjOk X.prog X.w H s.heap a (.lst [.int x, .int y, .int c]) from I.hok a _ h)
  cases r with
  | cons r1 r =>
    cases r with
    | cons r2 r =>
      cases r with
      | cons r3 r =>
        cases r
        obtain ⟨t, rfl⟩ := r1
        obtain ⟨u, rfl⟩ := r2
        obtain ⟨w, rfl⟩ := r3
        refine Inv.retrack I (by rw [h]; trivial) ⟨⟨x, y, c, t, u, w, n, e, h1, h2, h3, h4⟩, ⟨_, e⟩, fun g1 g2 ⟨x, y, c, t, u, w, n, e, h1, h2, h3, h4⟩ k => ⟨x, y, c, t, u, w, n, k _ e, h1, h2, h3, h4⟩⟩
def stkOk (k : Int) (z : Int) : Prop := (k = 0 ∧ 0 ≤ z) ∨ (k = 1 ∧ 0 ≤ z ∧ z < 2147483648) ∨ (k = 2 ∧ 0 ≤ z)
def rIxStk : R2 := fun x y H Q => ∃ a i, x = .ref a ∧ y = .int i ∧ H a = some (stkO a) ∧ 0 ≤ i ∧ i < 3 ∧ ∀ z, stkOk i z → Q (.int z) H
theorem ix_stk : IxR X rIxStk := by
  intro value slice pins s σ H x y v u Q I rx ry h hs
  obtain ⟨a, i, rfl, rfl, ha, h0, h3, hq⟩ := h
  obtain ⟨x, y, c, p1, p2, p3, p4, I1⟩ := Inv.openStk I ha
  have back : ∀ {s' : Shared}, Inv X pins σ (upd H a (.lst [.int x, .int y, .int c])) s' → Inv X pins σ H s' := fun I' => by
    have := Inv.closeStk I' upd_same p1 p2 p3 p4
    rw [upd_upd, upd_id ha] at this
    exact this
  have key : ∀ z, atI [V.int x, V.int y, V.int c] i = some (.int z) → stkOk i z → wpAny (model X.prog X.w) X.A (PyProof.Rows.subscriptTail value slice v u) (EP X pins σ Q) X.xe s := fun z ez oz => by
    refine wpAny_mono (ix_list value slice pins s σ _ (.ref a) (.int i) v u (fun v' H' => v' = .int z ∧ H' = upd H a (.lst [.int x, .int y, .int c])) I1 rx ry ⟨a, _, i, _, rfl, rfl, .of upd_same, ez, rfl, rfl⟩ hs) (fun r s' ⟨v', H', I', r', e1, e2⟩ => ?_) fun _ _ q => q
    subst e1; subst e2
    exact ⟨_, H, back I', r', hq z oz⟩
  have hi : i = 0 ∨ i = 1 ∨ i = 2 := by omega
  rcases hi with rfl | rfl | rfl
  · exact key x rfl (.inl ⟨rfl, p1⟩)
  · exact key y rfl (.inr (.inl ⟨rfl, p2, p3⟩))
  · exact key c rfl (.inr (.inr ⟨rfl, p4⟩))
def rSetStk : V → V → V → Hp → (Hp → Prop) → Prop := fun o i v H Q => ∃ a k z, o = .ref a ∧ i = .int k ∧ v = .int z ∧ H a = some (stkO a) ∧ stkOk k z ∧ Q H
theorem set_stk : PSet X rSetStk := by
  intro pins s σ H o i v ov iv u Q I ro ri rv h
  obtain ⟨a, k, z, rfl, rfl, rfl, ha, oz, hq⟩ := h
  obtain ⟨x, y, c, p1, p2, p3, p4, I1⟩ := Inv.openStk I ha
  have key : ∀ (x' y' c' : Int) (j : Nat), ixN 3 k = some j → [V.int x, V.int y, V.int c].set j (.int z) = [.int x', .int y', .int c'] → 0 ≤ x' → 0 ≤ y' → y' < 2147483648 → 0 ≤ c' →
      wpAny (model X.prog X.w) X.A (setItem ov iv u) (fun _ s' => ∃ H', Inv X pins σ H' s' ∧ Q H') X.xe s := fun x' y' c' j hj e q1 q2 q3 q4 => by
    refine wpAny_mono (set_list pins s σ _ (.ref a) (.int k) (.int z) ov iv u (fun H' => H' = upd H a (.lst [.int x', .int y', .int c'])) I1 ro ri rv ⟨a, _, k, j, rfl, rfl, upd_same, hj, by rw [e, upd_upd]⟩) (fun _ s' ⟨H', I', e1⟩ => ?_) fun _ _ q => q
    subst e1
    have := Inv.closeStk I' upd_same q1 q2 q3 q4
    rw [upd_upd, upd_id ha] at this
    exact ⟨H, this, hq⟩
  rcases oz with ⟨rfl, h1⟩ | ⟨rfl, h1, h2⟩ | ⟨rfl, h1⟩
  · exact key z y c 0 rfl rfl h1 p2 p3 p4
  · exact key x z c 1 rfl rfl p1 h1 h2 p4
  · exact key x y z 2 rfl rfl p1 p2 p3 h1
end

section
variable {E : DC} {W : WX} {P P' H H' : Hp} {σ σ' : L2.St} {Γ Γ' : List Sl} {X : Cx}
variable {a b c e o : Expr} {es : List Expr} {ta tb tc te : DE} {pos p apos p1 : Pos} {tas : DA}
@[simp] def dStk (i : Nat) (k : Int) : DE := fun x Γ Q => match Γ[i]? with
  | some (.d .stk) => ∀ z, stkOk k z → Q (.v (.int z)) Γ
  | _ => False
theorem de_stk (i : Nat) {k : Int} {x : Str} {j : Nat} {p2 : Pos} (h0 : 0 ≤ k := by decide) (h3 : k < 3 := by decide) (hN : X.N[i]? = some x := by rfl) (hv : Vis X.env.scope x := by first | exact Or.inl rfl | exact Or.inr (Or.inl rfl) | exact Or.inr (Or.inr rfl)) (hd : (x == ("__debug__" : Str)) = false := by decide)
    (hcd : (x == ("__classdict__" : Str)) = false := by decide) (hs : PlainIx (.Constant (.int k) j p2) := by exact fun _ _ => rfl) : PE X (.Subscript (.Name x p1) (.Constant (.int k) j p2) pos) (up E W (dStk i k)) :=
  impE (pe_ix ix_stk (pv i hN hv hd hcd) pe_int hs) fun σ H Q h => by
    obtain ⟨P, Γ, x, Qd, R, hT, hx, hQ⟩ := h
    unfold dStk at hT
    split at hT
    · rename_i e
      obtain ⟨v, e1, q⟩ := R.get e
      obtain ⟨a, rfl, ha⟩ := q.stk_inv
      exact ⟨_, e1, a, k, rfl, rfl, R.sub _ _ ha, h0, h3, fun z hz => hQ _ _ _ _ _ .refl R .v (hT z hz)⟩
    · exact hT.elim
@[simp] def dGStk (i : Nat) (k : Int) : DG := fun d Γ Q => match Γ[i]?, d with
  | some (.d .stk), .v (.int z) => stkOk k z ∧ Q Γ
  | _, _ => False
theorem dg_stk (i : Nat) {k : Int} {x : Str} {j : Nat} {p2 : Pos} (hN : X.N[i]? = some x := by rfl) (hv : Vis X.env.scope x := by first | exact Or.inl rfl | exact Or.inr (Or.inl rfl) | exact Or.inr (Or.inr rfl)) (hd : (x == ("__debug__" : Str)) = false := by decide)
    (hcd : (x == ("__classdict__" : Str)) = false := by decide) (ha : ∀ v, assign (.Subscript (.Name x p1) (.Constant (.int k) j p2) pos) X.env v = (do
      let ov ← holding [v] (eval (.Name x p1) X.env)
      let iv ← holding [v, ov] (eval (.Constant (.int k) j p2) X.env)
      standAt pos
      holding [v, ov, iv] (setItem ov iv v)
      release [v, ov, iv] []) := by intro _; rfl) : PG X (.Subscript (.Name x p1) (.Constant (.int k) j p2) pos) (upG E [] (dGStk i k)) := ⟨fun pins s σ H v u Q I r h => by
  refine (pg_sub (pv i hN hv hd hcd) pe_int set_stk ha).run pins s σ H v u Q I r ?_
  obtain ⟨P, Γ, d, Qd, R, hi, hT, hQ⟩ := h
  unfold dGStk at hT
  split at hT
  · rename_i e
    obtain ⟨v', e1, q⟩ := R.get e
    obtain ⟨a, rfl, ha⟩ := q.stk_inv
    exact ⟨_, e1, a, k, _, rfl, rfl, hi.v_inv, R.sub _ _ ha, hT.1, hQ _ _ R (fun _ z => z) (fun _ _ => rfl) hT.2⟩
  · exact hT.elim⟩
@[simp] def dMkStk (t : DA) : DE := fun x Γ Q => t x Γ fun ds Γ1 => match ds with
  | [.v (.int x), .v (.int y), .v (.int c)] => 0 ≤ x ∧ 0 ≤ y ∧ y < 2147483648 ∧ 0 ≤ c ∧ Q .stk Γ1
  | _ => False
theorem pe_mkStk {e : Expr} {t : TE} (h : PE X e t) : PE X e (fun σ H Q => t σ H fun v H1 => ∃ a x y c, v = .ref a ∧ H1 a = some (.lst [.int x, .int y, .int c]) ∧ 0 ≤ x ∧ 0 ≤ y ∧ y < 2147483648 ∧ 0 ≤ c ∧ Q v (upd H1 a (stkO a))) := ⟨fun pins s σ H Q I hh =>
  thn (h.run pins s σ H _ I hh) fun u s1 ⟨v, H1, I1, r1, a, x, y, c, e, ha, h1, h2, h3, h4, q⟩ => ⟨v, _, Inv.closeStk I1 ha h1 h2 h3 h4, r1, q⟩⟩
theorem de_mkStk (h : PA X es (upA E W tas)) : PE X (.List es pos) (up E W (dMkStk tas)) := impE (pe_mkStk (pe_lst h)) fun σ H Q h => by
  obtain ⟨P, Γ, x, Qd, R, hT, hx, hQ⟩ := h
  refine ⟨P, Γ, x, _, R, hT, hx, fun ds Γ1 vs P1 H1 g1 R1 i1 h1 => ?_⟩
  split at h1
  · obtain ⟨a, r, rfl, ia, ir⟩ := i1.cons_inv
    obtain ⟨b, c, rfl, ib, ic⟩ := ir.two
    rw [ia.v_inv, ib.v_inv, ic.v_inv]
    refine ⟨by show 3 ≤ sizeLine; rw [sizeLine_eq]; decide, fun p hp => ⟨p, _, _, _, rfl, upd_same, h1.1, h1.2.1, h1.2.2.1, h1.2.2.2.1, ?_⟩⟩
    rw [upd_upd]
    exact hQ _ _ _ _ _ (g1.trans (Gr.alloc R1 _ hp)) (R1.alloc _ hp) (by unfold Is; exact ⟨p, rfl, upd_same⟩) h1.2.2.2.2
  · exact h1.elim
end
end DL

namespace DL
open PySem L2 PySem.Calls

section
variable {E : DC} {W : WX} {P P' H H' : Hp} {σ σ' : L2.St} {Γ Γ' : List Sl} {X : Cx}
theorem Rep.setOwn (R : Rep E P H σ Γ) {i : Nat} {s s' : Sl} {a : Addr} {o' : HO} (hi : Γ[i]? = some s) (hs : s.own = true) (ha : σ[i]? = some (some (.ref a))) (hs' : s'.own = true) (new : SlAt E.K E.cl P (upd H a o') s' (some (.ref a))) (pn : P a = none) :
    Rep E P (upd H a o') σ (Γ.set i s') := by
  have hlt : i < Γ.length := (List.getElem?_eq_some_iff.mp hi).1
  have hown : Own σ Γ a := ⟨i, s, hi, hs, ha⟩
  have back : ∀ {j : Nat} {t : Sl}, (Γ.set i s')[j]? = some t → t.own = true → ∃ t', Γ[j]? = some t' ∧ t'.own = true := fun {j t} e o => by
    by_cases ej : i = j
    · subst ej; exact ⟨s, hi, hs⟩
    · rw [List.getElem?_set_ne ej] at e; exact ⟨t, e, o⟩
  refine ⟨fun b u q => ?_, R.p0, fun b u q n => ?_, fun b u q => ?_, R.new, by rw [List.length_set]; exact R.len, fun j t o e1 e2 => ?_, fun j k b sj sk hn h1 h2 h3 h4 h5 h6 => ?_, fun b ⟨j, t, h1, h2, h3⟩ => ?_⟩
  · have e : b ≠ a := fun z => by subst z; rw [pn] at q; cases q
    rw [upd_ne e]; exact R.sub b u q
  · have e : b ≠ a := fun z => by
      subst z
      rcases R.ow _ hown with z | z
      · rw [z] at q; cases q
      · exact n z
    rw [upd_ne e]; exact R.h0 b u q n
  · by_cases e : b = a
    · subst e; exact ⟨o', upd_same⟩
    · rw [upd_ne e]; exact R.dm b u q
  · by_cases ej : i = j
    · subst ej
      rw [List.getElem?_set_self hlt] at e1
      cases e1
      rw [ha] at e2; cases e2
      exact new
    · rw [List.getElem?_set_ne ej] at e1
      have q := R.sl j t o e1 e2
      have ne : ∀ b, t.own = true → o = some (.ref b) → b ≠ a := fun b ho eo z => R.dj i j a s t ej hi hs ha e1 ho (by rw [e2, eo, z])
      cases t with
      | no => trivial
      | d x => exact q
      | m ds => obtain ⟨b, xs, e, n1, n2, q⟩ := q; exact ⟨b, xs, e, n1, by rw [upd_ne (ne b rfl e)]; exact n2, q⟩
      | md ks ds => obtain ⟨b, xs, e, n1, n2, q⟩ := q; exact ⟨b, xs, e, n1, by rw [upd_ne (ne b rfl e)]; exact n2, q⟩
      | mo b dx c ns ds => obtain ⟨xs, e, n1, n2, q⟩ := q; exact ⟨xs, e, n1, by rw [upd_ne (ne b rfl e)]; exact n2, q⟩
  · obtain ⟨tj, e1, o1⟩ := back h1 h2
    obtain ⟨tk, e2, o2⟩ := back h4 h5
    exact R.dj j k b tj tk hn e1 o1 h3 e2 o2 h6
  · obtain ⟨t', e1, o1⟩ := back h1 h2
    exact R.ow b ⟨j, t', e1, o1, h3⟩
theorem Rep.own_at (R : Rep E P H σ Γ) {i : Nat} {s : Sl} (hi : Γ[i]? = some s) : ∃ o, σ[i]? = some o ∧ SlAt E.K E.cl P H s o := by
  have hl : i < σ.length := by rw [R.len]; exact (List.getElem?_eq_some_iff.mp hi).1
  exact ⟨σ[i], List.getElem?_eq_getElem hl, R.sl i s _ hi (List.getElem?_eq_getElem hl)⟩
theorem putF_new {f : Str} {v : V} : ∀ {fs : List (Str × V)}, idx f (fs.map (·.1)) = none → putF f v fs = fs ++ [(f, v)]
  | [], _ => rfl
  | (g, y) :: r, h => by
    rw [List.map_cons] at h
    unfold idx at h
    by_cases e : f = g
    · rw [if_pos e] at h; cases h
    · rw [if_neg e] at h
      simp only [Option.map_eq_none_iff] at h
      unfold putF
      rw [if_neg (fun z => e z.symm), putF_new h]; rfl
theorem putF_old {f : Str} {v : V} : ∀ {fs : List (Str × V)} {k : Nat}, idx f (fs.map (·.1)) = some k → (putF f v fs).map (·.1) = fs.map (·.1) ∧ (putF f v fs).map (·.2) = (fs.map (·.2)).set k v
  | [], k, h => by simp [idx] at h
  | (g, y) :: r, k, h => by
    rw [List.map_cons] at h
    unfold idx at h
    by_cases e : f = g
    · rw [if_pos e] at h
      cases h
      unfold putF
      rw [if_pos e.symm]
      exact ⟨rfl, rfl⟩
    · rw [if_neg e] at h
      simp only [Option.map_eq_some_iff] at h
      obtain ⟨j, h1, rfl⟩ := h
      obtain ⟨q1, q2⟩ := putF_old (v := v) h1
      unfold putF
      rw [if_neg (fun z => e z.symm)]
      exact ⟨by rw [List.map_cons, List.map_cons, q1], by rw [List.map_cons, List.map_cons, q2]; rfl⟩
@[simp] def dSelf (i : Nat) (f : Str) (te : DE) : DST := fun De Γ => te De.ex Γ fun d Γ1 => match Γ1[i]? with
  | some (.mo a dx c ns ws) => ns.length < 1000 ∧ match idx f ns with
    | none => De.nx (Γ1.set i (.mo a dx c (ns ++ [f]) (ws ++ [d])))
    | some k => De.nx (Γ1.set i (.mo a dx c ns (ws.set k d)))
  | _ => False
variable {value : Expr} {te : DE} {pos pos' py : Pos} {f : Str}
theorem d_self (i : Nat) {y : Str} (hK : X.K = E.K) (hc : ∀ c, Cls E.K (E.cl c)) (hn : ∀ c, NoAttr E.K (E.cl c) f) (hv : PE X value (up E W te)) (hN : X.N[i]? = some y := by rfl) (hvis : Vis X.env.scope y := by first | exact Or.inl rfl | exact Or.inr (Or.inl rfl) | exact Or.inr (Or.inr rfl)) (hd : (y == ("__debug__" : Str)) = false := by decide)
    (hcd : (y == ("__classdict__" : Str)) = false := by decide) (hs : swapsWith value (some (.Attribute (.Name y py) f pos')) pos.line X.env = pure false := by rfl) : PS X (.Assign [.Attribute (.Name y py) f pos'] value pos) (upS E W (dSelf i f te)) :=
  impS (ps_fld (pv i hN hvis hd hcd) hv hs) fun D σ H h => by
    obtain ⟨P, Γ, De, R, hT, L⟩ := h
    refine ⟨P, Γ, _, _, R, hT, L.ex σ, fun d Γ1 v P1 H1 g1 R1 i1 h1 => ?_⟩
    split at h1
    · rename_i a dx c ns ws e
      obtain ⟨hl, h1⟩ := h1
      obtain ⟨o, eo, fs, rfl, pa, ha, rfl, iw⟩ := R1.own_at e
      have hl' : fs.length < 1000 := by simpa using hl
      refine ⟨_, eo, a, _, dx, fs, rfl, ha, by rw [hK]; exact hc _, by rw [hK]; exact hn _, hl', ?_⟩
      split at h1
      · rename_i ek
        refine L.nx _ _ _ _ g1.p (R1.setOwn (s' := .mo a dx c (fs.map (·.1) ++ [f]) (ws ++ [d])) e rfl eo rfl ⟨_, rfl, pa, upd_same, ?_, ?_⟩ pa) h1
        · rw [putF_new ek]; simp
        · rw [putF_new ek]
          simp only [List.map_append, List.map_cons, List.map_nil]
          exact iw.append (.cons i1 .nil)
      · rename_i k ek
        obtain ⟨q1, q2⟩ := putF_old (v := v) ek
        refine L.nx _ _ _ _ g1.p (R1.setOwn (s' := .mo a dx c (fs.map (·.1)) (ws.set k d)) e rfl eo rfl ⟨_, rfl, pa, upd_same, q1, ?_⟩ pa) h1
        rw [q2]
        exact iw.set k i1
    · exact h1.elim

@[simp] def entryI (n : Nat) (x dx : Addr) (c : Nat) (ds : List D) : DS := .mo x dx c [] [] :: (ds.map Sl.d ++ List.replicate (n - 1 - ds.length) .no)
theorem start_repI {K : PySem.W.Frag} {cl : Nat → Addr} {ds : List D} {vs : List V} {x dx : Addr} {c : Nat} (s : Same P H) (hx : H x = some (.ins (cl c) dx [])) (px : P x = none) (i : IsA K cl P ds vs) (N : List Str) (hl : vs.length + 1 ≤ N.length) :
    Rep ⟨K, cl, P, H, [x]⟩ P H (L2.start N (.ref x :: vs)) (entryI N.length x dx c ds) := by
  have hst : L2.start N (.ref x :: vs) = some (.ref x) :: (vs.map some ++ List.replicate (N.length - 1 - vs.length) none) := by
    unfold L2.start
    rw [List.map_cons, List.length_cons, List.cons_append]
    congr 3
    omega
  have noOwn : ∀ (j : Nat) (t : Sl), (ds.map Sl.d ++ List.replicate (N.length - 1 - ds.length) Sl.no)[j]? = some t → t.own = false := fun j t h1 => by
    have : t ∈ ds.map Sl.d ++ List.replicate (N.length - 1 - ds.length) Sl.no := List.mem_of_getElem? h1
    rcases List.mem_append.mp this with z | z
    · obtain ⟨d, _, rfl⟩ := List.mem_map.mp z; rfl
    · rw [(List.mem_replicate.mp z).2]; rfl
  have only : ∀ (j : Nat) (t : Sl), (entryI N.length x dx c ds)[j]? = some t → t.own = true → j = 0 := fun j t h1 h2 => by
    cases j with
    | zero => rfl
    | succ j =>
      have := noOwn j t (by simpa [entryI] using h1)
      rw [this] at h2; cases h2
  rw [hst]
  refine ⟨s, Same.refl P, fun a o e _ => e, fun a o e => ⟨o, e⟩, fun a o e => .inl ⟨o, e⟩, ?_, fun j t o e1 e2 => ?_, fun j k a sj sk hn h1 h2 h3 h4 h5 h6 => ?_, fun a ⟨j, t, h1, h2, h3⟩ => ?_⟩
  · unfold entryI
    simp only [List.length_cons, List.length_append, List.length_map, List.length_replicate]
    rw [i.length]
  · cases j with
    | zero =>
      simp only [entryI, List.getElem?_cons_zero, Option.some.injEq] at e1 e2
      subst e1; subst e2
      exact ⟨[], rfl, px, hx, rfl, .nil⟩
    | succ j =>
      simp only [entryI, List.getElem?_cons_succ] at e1 e2
      by_cases hj : j < ds.length
      · rw [List.getElem?_append_left (by simpa using hj)] at e1
        rw [List.getElem?_append_left (by simpa [i.length] using hj)] at e2
        rw [List.getElem?_map] at e1 e2
        cases hd : ds[j]? with
        | none => rw [hd] at e1; cases e1
        | some d =>
          rw [hd] at e1; cases e1
          obtain ⟨v, h1, h2⟩ := i.get hd
          rw [h1] at e2; cases e2
          exact ⟨v, rfl, h2⟩
      · have hl2 : (ds.map Sl.d).length ≤ j := by rw [List.length_map]; omega
        rw [List.getElem?_append_right hl2, List.getElem?_replicate] at e1
        split at e1
        · cases e1; trivial
        · cases e1
  · exact hn ((only j sj h1 h2).trans (only k sk h4 h5).symm)
  · have e := only j t h1 h2
    subst e
    simp only [List.getElem?_cons_zero, Option.some.injEq] at h3
    exact .inr (by simpa using h3.symm)
@[simp] def selfAt (x dx : Addr) (c : Nat) (Q : List Str → List D → Prop) (Γ : DS) : Prop := match (Γ[0]? : Option Sl) with
  | some (Sl.mo x' dx' c' ns ws) => x' = x ∧ dx' = dx ∧ c' = c ∧ Q ns ws
  | _ => False
@[simp] def conI (x dx : Addr) (c : Nat) (Q : List Str → List D → Prop) (R : XD → Prop) : DEnds where
  nx := selfAt x dx c Q
  rt := fun d Γ => d = .v .non ∧ selfAt x dx c Q Γ
  ex := fun e _ => R e
end
section
variable {P : Program} {w : World} {K : PySem.W.Frag} {mg : Str → Option Value} {base : Heap} {cl : Nat → Addr}
theorem Rep.toBackI {P H P0 H0 : Hp} {x : Addr} {σ : L2.St} {Γ : DS} (R : Rep ⟨K, cl, P0, H0, [x]⟩ P H σ Γ) : BackI x P0 H0 P H :=
  ⟨R.p0, R.sub, fun a o e n => R.h0 a o e (by simpa using n), R.new⟩
theorem okI {x qual : Str} {st : Stmt} {f : Addr} {fd : FuncData} {N ps : List Str} {k c : Nat} {C : ConI}
    (F : FunX K x qual st f fd) (S : FnScope N ps (defScope st)) (hps : ps.length ≤ N.length) (hl : ∀ ds Q R, C ds Q R → ds.length + 1 = ps.length)
    (hbody : ∀ (cdv : Value) (A : Around) (outer : List Env) (s : Shared) (H : Hp) (E : DC) (Ex : XK), E.K = K → E.cl = cl → A.guards = some [] → Room k (A.deeper (PyProof.Rows.envOfC qual (defScope st) s.heap.objs.size f cdv)) →
      ∃ t, PSs (cxOf (L2.CX P w) P w K mg base N qual (defScope st) f cdv A outer s H Ex) (defBody st) (upS E (WD Ex) t) ∧ ∀ y dx ds Q R, C ds Q R → (∀ e, ¬ R e) → t (conI y dx c Q R) (entryI N.length y dx c ds)) :
    FnG P w K mg base (k + 1) f fd ps (spI K cl c fun ds Q R => C ds Q R ∧ ∀ e, ¬ R e) := by
  refine FnG.body F S (fun vs H Q E h => ?_) (fun cdv A outer s H vs Q Ex hG hr h => ?_)
  · obtain ⟨y, dx, vs', P, ds, Qd, Xd, rfl, _, _, s, i, ⟨c, _⟩, _⟩ := h
    rw [List.length_cons, i.length]; exact hl _ _ _ c
  · obtain ⟨y, dx, vs', P', ds, Qd, Xd, rfl, hy, py, s', i, ⟨c, nx⟩, h1, h2⟩ := h
    obtain ⟨t, ht, hq⟩ := hbody cdv A outer s H ⟨K, cl, P', H, [y]⟩ Ex rfl rfl hG hr
    have hvl : vs'.length + 1 ≤ N.length := by rw [i.length, hl _ _ _ c]; exact hps
    have fin : ∀ σ' Γ' P2 H2, Rep ⟨K, cl, P', H, [y]⟩ P2 H2 σ' Γ' → selfAt y dx _ Qd Γ' → Q .non H2 := fun σ' Γ' P2 H2 R2 q => by
      unfold selfAt at q
      split at q
      · rename_i a b c' ns ws e
        obtain ⟨rfl, rfl, rfl, q⟩ := q
        obtain ⟨o, eo, fs, rfl, pa, ha, rfl, iw⟩ := R2.own_at e
        exact h1 fs ws P2 H2 R2.toBackI pa ha iw q
      · exact q.elim
    refine ⟨_, ht, P', _, _, start_repI s' hy py i N hvl, hq y dx ds Qd Xd c nx, ⟨fun σ' Γ' P2 H2 s2 R2 q => fin σ' Γ' P2 H2 R2 q, fun d v σ' Γ' P2 H2 s2 R2 i2 q => ?_, fun _ _ _ _ _ _ z => z.elim, fun _ _ _ _ _ _ z => z.elim, fun σ' e Γ' P2 H2 cls d R2 xi q => (nx e q).elim⟩⟩
    obtain ⟨rfl, q⟩ := q
    rw [i2.v_inv]
    exact fin σ' Γ' P2 H2 R2 q
end
end DL

namespace DL
open PySem L2 PySem.Calls

section
open PySem.W PyProof.Rows
variable {prog : Program} {w : World} {A : Around} {E : Value → Shared → Prop} {s : Shared} {K : Frag} {x C f : Addr} {ox : Obj} {od : Option Obj}
theorem repr_own {Q : Value → Shared → Prop} (hu : A.units + 1 < cLine) (X : K.In s.heap) (I : InstAt s.heap x ox C od) (hs : findIn K (.ref C) "__repr__" = some (some (.ref f))) (hf : isFn K (.ref f) = true)
    (h : wpAny (model prog w) A.in1 (call (.ref f) [.ref x]) (fun v s' => ∃ y t, v = .str y t ∧ Q v s') E s) : wpAny (model prog w) A (call (.builtin "repr") [.ref x]) Q E s := by
  refine call_function_entry PySem.F.kind_repr PySem.F.plain_repr PySem.F.entry_repr (PySem.F.args_repr1 _) ?_
  unfold Builtin.«repr»
  refine wpAny_bind (m := oneArg "repr" _) (wpAny_pure (wpAny_bind (m := cRoomFor _ _) (wpAny_cRoomFor hu ?_)))
  refine wpAny_bind (m := specialOf (.ref x) (Str.ofString "__repr__")) ?_
  unfold specialOf
  refine wpAny_bind (I.type.here ((looks_findIn X hs).here ?_))
  refine wpAny_bind (m := callSpecialIfBound? (.ref x) (Str.ofString "__repr__")) (ifBound_K X I hs hf (wpAny_mono h (fun r s₁ h₁ => ?_) fun _ _ e => e))
  obtain ⟨y, t, rfl, hq⟩ := h₁
  exact wpAny_bind (wpAny_isInstance (T := "str") (b := true) rfl isSubtype_str_str (wpAny_pure ⟨_, rfl, hq⟩))
open Builtin Builtin.Str in
theorem str_own {Q : Value → Shared → Prop} (hu : A.in1.in1.units < cLine) (X : K.In s.heap) (I : InstAt s.heap x ox C od) (hs : findIn K (.ref C) "__str__" = some (some (.ref f))) (hf : isFn K (.ref f) = true)
    (h : wpAny (model prog w) A.in1.in1 (call (.ref f) [.ref x]) (fun v s' => ∃ y t, v = .str y t ∧ Q v s') E s) : wpAny (model prog w) A (call (.type "str") [.ref x]) Q E s := by
  refine callType_codes (T := "str") (Bi := Builtin.«object.__init__») (Q₁ := fun r s₁ => ∃ y u, r = .str y u ∧ Q r s₁) PySem.F.called_str (PySem.F.typeCall_str_1 _) PySem.F.entry_object_init ?_ ?_
  · refine codeAny_of_tree ?_
    show wpAny _ A.in1.in1 (do checkBuiltinCall "str.__new__" ⟨[.type "str", .ref x], []⟩; again (.builtin "str.__new__" ⟨[.type "str", .ref x], []⟩)) _ _ s
    refine wpAny_bind (wpAny_of_eq (PySem.F.newCall_str_1 _) (wpAny_pure ⟨plainId_quiet (by decide +kernel) _, codeAny_builtin PySem.F.entry_str_new ?_⟩))
    rw [Around.under_plainId (by decide +kernel) _, str_new_tree]
    refine wpAny_bind (wpAny_pure (wpAny_bind (wpAny_of_eq isSubtype_str_str ?_)))
    have key : wpAny (model prog w) A.in1.in1 (PySem.Builtin.Str.strOf (.ref x)) (fun r s₁ => ∃ y u, r = .str y u ∧ Q r s₁) E s := by
      unfold PySem.Builtin.Str.strOf
      rw [show isExactStr (.ref x) = false from rfl]
      refine wpAny_bind (m := cRoomFor _ _) (wpAny_cRoomFor hu ?_)
      refine wpAny_bind (m := callSpecial? (.ref x) (Str.ofString "__str__")) (special_fn X I hs (beq_iff_eq.mp hf) (wpAny_mono h (fun r s' z => ?_) fun _ _ y => y))
      obtain ⟨y, t, rfl, hq⟩ := z
      exact wpAny_pure ⟨_, _, rfl, hq⟩
    exact wpAny_bind (wpAny_mono key (fun r s₁ hr => wpAny_pure hr) fun _ _ y => y)
  · rintro obj s₁ ⟨y, u, rfl, hq⟩
    exact ⟨typeIs_str _ _ _, PySem.F.args_object_init_2 _ _, object_init_meets PySem.F.called_str.init.lookup PySem.F.called_str.made (by decide) prog w A.in1 _ s₁ ⟨typeIs_str _ _ _, rfl, hq⟩⟩
end

section
variable {E : DC} {W : WX} {P P' H H' : Hp} {σ σ' : L2.St} {Γ Γ' : List Sl} {X : Cx}
variable {a b c e o : Expr} {es : List Expr} {ta tb tc te : DE} {pos p apos p1 : Pos} {tas : DA}
variable {k cn : Nat} {f : Addr} {fd : FuncData} {ps : List Str} {C : Con}
@[simp] def rOwn (c : Nat) (C : Con) : RND := fun ds Q => match ds with
  | [.obj c' ns ws] => c' = c ∧ C [.obj c' ns ws] (fun d => ∃ y, d = .v (.str y) ∧ Q d) fun _ => False
  | _ => False
def rOwnH (E : DC) (c : Nat) (sp : Sp) : List V → Hp → VK → Prop := fun vs H Q => ∃ a dx fs, vs = [.ref a] ∧ H a = some (.ins (E.cl c) dx fs) ∧ sp [.ref a] H (fun v H' => ∃ y, v = .str y ∧ Q v H') E0
theorem lk_own : LkN E (rOwnH E cn (spD E.K E.cl C)) (rOwn cn C) := by
  intro P H σ Γ ds vs Q Qd R i hr hQ
  unfold rOwn at hr
  split at hr
  · obtain ⟨rfl, hr⟩ := hr
    have i' := i
    obtain ⟨x, rfl, i1⟩ := i.one
    obtain ⟨q, dx, fs, rfl, hq, rfl, hw⟩ := i1.obj_inv
    exact ⟨q, dx, fs, rfl, R.sub _ _ hq, P, _, _, _, R.sub, i', hr, fun d v P' H' bk i q => by
      obtain ⟨y, rfl, q⟩ := q
      exact ⟨y, i.v_inv, hQ _ _ _ _ (.back bk) (R.back bk) i q⟩, fun _ _ _ _ _ _ _ z => z.elim⟩
  · exact hr.elim
theorem own_str (hK : X.K = E.K) (hG : X.A.guards = some []) (hs : PySem.W.findIn E.K (.ref (E.cl cn)) "__str__" = some (some (.ref f))) (hf : PySem.W.isFn E.K (.ref f) = true) (F : FnG X.prog X.w X.K X.mg X.base k f fd ps (spD E.K E.cl C)) (hr : Room (k + 2) X.A) (hb : Bnd X.K fd ps 1 0 [] []) :
    CallR X (.type "str") (rOwnH E cn (spD E.K E.cl C)) := by
  intro pins s σ H xs us Q I r h
  obtain ⟨a, dx, fs, rfl, ha, h⟩ := h
  obtain ⟨u, rfl, rfl⟩ := vals1 r
  obtain ⟨mA, O, _⟩ := ins_get I.hok ha
  obtain ⟨od, J, _⟩ := O.look
  refine str_own (K := X.K) (by have := hr.un; show X.A.units + 1 + 1 < cLine; omega) I.kIn J (by rw [hK]; exact hs) (by rw [hK]; exact hf) ?_
  refine call_g1 (A := X.A.in1.in1) (gs := [.ref a]) hG I.ok.frames F hr.in1.in1 hb I (.cons rfl .nil) rfl h fun u s' q => ?_
  obtain ⟨v, H', I3, rv, y, rfl, q3⟩ := q
  obtain ⟨t, rfl⟩ := rv
  exact ⟨y, t, rfl, .str y, H', I3, ⟨t, rfl⟩, q3⟩
theorem own_repr (hK : X.K = E.K) (hG : X.A.guards = some []) (hs : PySem.W.findIn E.K (.ref (E.cl cn)) "__repr__" = some (some (.ref f))) (hf : PySem.W.isFn E.K (.ref f) = true) (F : FnG X.prog X.w X.K X.mg X.base k f fd ps (spD E.K E.cl C)) (hr : Room (k + 2) X.A) (hb : Bnd X.K fd ps 1 0 [] []) :
    CallR X (.builtin "repr") (rOwnH E cn (spD E.K E.cl C)) := by
  intro pins s σ H xs us Q I r h
  obtain ⟨a, dx, fs, rfl, ha, h⟩ := h
  obtain ⟨u, rfl, rfl⟩ := vals1 r
  obtain ⟨mA, O, _⟩ := ins_get I.hok ha
  obtain ⟨od, J, _⟩ := O.look
  refine repr_own (K := X.K) (by have := hr.un; omega) I.kIn J (by rw [hK]; exact hs) (by rw [hK]; exact hf) ?_
  refine call_g1 (A := X.A.in1) (gs := [.ref a]) hG I.ok.frames F (hr.mono (Nat.le_succ _)).in1 hb I (.cons rfl .nil) rfl h fun u s' q => ?_
  obtain ⟨v, H', I3, rv, y, rfl, q3⟩ := q
  obtain ⟨t, rfl⟩ := rv
  exact ⟨y, t, rfl, .str y, H', I3, ⟨t, rfl⟩, q3⟩

theorem py_noDict : ∀ (d : D) (p : PyData), py d = some p → p.hasDict = false
  | .v x, p, e => by cases x <;> simp only [py, Option.some.injEq, reduceCtorEq] at e <;> (subst e; simp only [PyData.hasDict])
  | .lst ds, p, e => by
    simp only [py, Option.map_eq_some_iff] at e
    obtain ⟨ps, e1, rfl⟩ := e
    simp only [PyData.hasDict]; exact go ds ps e1
  | .kst ds, p, e => by
    simp only [py, Option.map_eq_some_iff] at e
    obtain ⟨ps, e1, rfl⟩ := e
    simp only [PyData.hasDict]; exact go ds ps e1
  | .tup ds, p, e => by
    simp only [py, Option.map_eq_some_iff] at e
    obtain ⟨ps, e1, rfl⟩ := e
    simp only [PyData.hasDict]; exact go ds ps e1
  | .dic _ _, p, e => by simp [py] at e
  | .obj _ _ _, p, e => by simp [py] at e
  | .stk, p, e => by simp [py] at e
where go : ∀ (ds : List D) (ps : List PyData), py.pyA ds = some ps → PyData.hasDictAll ps = false
  | [], ps, e => by simp only [py.pyA, Option.some.injEq] at e; subst e; simp only [PyData.hasDictAll]
  | d :: ds, ps, e => by
    unfold py.pyA at e
    split at e
    · rename_i p qs e1 e2
      cases e
      simp only [PyData.hasDictAll, py_noDict d p e1, go ds qs e2, Bool.or_false]
    · cases e
@[simp] def dRepr : RND := fun ds Q => match ds with
  | [.v .non] => Q (.v (.str "None"))
  | [.v (.bl b)] => Q (.v (.str (if b then "True" else "False")))
  | [.v (.int i)] => i.natAbs.log2 < 1920 ∧ Q (.v (.str (toString i)))
  | [.v (.str x)] => (reprText x).length ≤ sizeLine ∧ Q (.v (.str (reprText x)))
  | [d] => match py d with
    | some p => (p.showable = true ∧ p.shown.length ≤ sizeLine ∧ p.depth ≤ 60) ∧ Q (.v (.str p.shown))
    | none => False
  | _ => False
def rReprH (K : PySem.W.Frag) : List V → Hp → VK → Prop := fun xs H Q => (xs = [.non] ∧ Q (.str "None") H) ∨ (∃ b, xs = [.bl b] ∧ Q (.str (if b then "True" else "False")) H) ∨ (∃ i, xs = [.int i] ∧ i.natAbs.log2 < 1920 ∧ Q (.str (toString i)) H) ∨
  (∃ x, xs = [.str x] ∧ (reprText x).length ≤ sizeLine ∧ Q (.str (reprText x)) H) ∨ ∃ a p, xs = [.ref a] ∧ Dp K H (.ref a) p ∧ p.hasDict = false ∧ (p.showable = true ∧ p.shown.length ≤ sizeLine ∧ p.depth ≤ 60) ∧ Q (.str p.shown) H
theorem cRepr (hK : X.K = E.K) (hG : X.A.guards = some []) (hu : X.A.units + 64 < cLine) : CallR X (.builtin "repr") (rReprH E.K) := by
  rw [← hK]
  intro pins s σ H xs us Q I r h
  rcases h with ⟨rfl, q⟩ | ⟨b, rfl, q⟩ | ⟨i, rfl, hi, q⟩ | ⟨x, rfl, hx, q⟩ | ⟨a, p, rfl, hd, hn, ⟨h1, h2, h3⟩, q⟩
  · obtain ⟨u, rfl, rfl⟩ := vals1 r
    exact PySem.P.repr_of_none ⟨.str _, H, I.tok _, ⟨_, rfl⟩, q⟩
  · obtain ⟨u, rfl, rfl⟩ := vals1 r
    exact PySem.P.repr_of_bool ⟨.str _, H, I.tok _, ⟨_, rfl⟩, q⟩
  · obtain ⟨u, rfl, t, rfl⟩ := vals1 r
    exact PySem.P.repr_of_int hi ⟨.str _, H, I.tok _, ⟨_, rfl⟩, q⟩
  · obtain ⟨u, rfl, t, rfl⟩ := vals1 r
    exact PySem.P.repr_of_str ⟨.str _, H, I.tok _, ⟨_, rfl⟩, q⟩ hx
  · obtain ⟨u, rfl, rfl⟩ := vals1 r
    obtain ⟨as, rd⟩ := Dp.reads I p _ _ hd rfl
    exact repr_of_reads' rd h1 (PySem.PyData.noDict_hsm hn) hG (by omega) (fun _ _ q => q) (fun h' u tk k => ⟨.str _, H, I.kept k, ⟨_, rfl⟩, q⟩) h2
theorem lk_repr : LkN E (rReprH E.K) dRepr := by
  intro P H σ Γ ds vs Q Qd R i hr hQ
  unfold dRepr at hr
  split at hr
  · obtain ⟨x, rfl, i1⟩ := i.one; rw [i1.v_inv]; exact .inl ⟨rfl, hQ _ _ P H .refl R .v hr⟩
  · obtain ⟨x, rfl, i1⟩ := i.one; rw [i1.v_inv]; exact .inr (.inl ⟨_, rfl, hQ _ _ P H .refl R .v hr⟩)
  · obtain ⟨x, rfl, i1⟩ := i.one; rw [i1.v_inv]; exact .inr (.inr (.inl ⟨_, rfl, hr.1, hQ _ _ P H .refl R .v hr.2⟩))
  · obtain ⟨x, rfl, i1⟩ := i.one; rw [i1.v_inv]; exact .inr (.inr (.inr (.inl ⟨_, rfl, hr.1, hQ _ _ P H .refl R .v hr.2⟩)))
  · rename_i d n1 n2 n3 n4
    split at hr
    · rename_i p ep
      obtain ⟨x, rfl, i1⟩ := i.one
      obtain ⟨a, rfl⟩ := i1.ref_of fun z => by
        intro e
        subst e
        cases z with
        | non => exact n1 rfl
        | bl b => exact n2 b rfl
        | int j => exact n3 j rfl
        | str y => exact n4 y rfl
        | _ => simp [py] at ep
      exact .inr (.inr (.inr (.inr ⟨a, p, rfl, i1.dp R.sub _ _ _ ep, py_noDict _ _ ep, hr.1, hQ _ _ P H .refl R .v hr.2⟩)))
    · exact hr.elim
  · exact hr.elim
end
end DL

namespace DL
open PySem L2 PySem.Calls

section
open PySem.W PyProof.Rows PyProof.V PySem.Spec
variable {prog : Program} {w : World} {A : Around} {E : Value → Shared → Prop} {s : Shared} {x : Str} {t : Tok}
theorem hint_str {Q : Bool → Shared → Prop} (h : Q false s) : wpAny (model prog w) A (Builtin.List.listLengthHint (.str x t)) Q E s := by
  unfold Builtin.List.listLengthHint
  refine wpAny_bind (wpAny_specialOf (typeIs_str s x t) PySem.F.slot_str_len.lookup ?_)
  generalize hid : ("str.__len__" : String) = id0
  wp_delta
  rw [show splitId id0 = some ("str", "__len__") from by subst hid; decide +kernel]
  subst hid
  refine wpAny_bind (wpAny_isInstance (T := "str") (b := true) (typeIs_str s x t) isSubtype_str_str ?_)
  refine wpAny_ite_split (fun hab => absurd hab (by decide)) (fun _ => ?_)
  refine wpAny_ite_split (fun _ => ?_) (fun hab => absurd (by decide +kernel) hab)
  refine wpAny_bind (wpAny_typeOf (typeIs_str s x t) ?_)
  exact wpAny_pure h
theorem extend_str {R : Result → Shared → Prop} (hh : A.handled = none) (S : Addr) (res : Value) (c₀ : Nat) (hS : s.heap.get? S = some { cls := .type "list", data := .seq #[] c₀ }) (hn : x.cps.size ≤ sizeLine)
    (hR : ∀ h' tk acc' c', (∀ b o, b ≠ S → s.heap.get? b = some o → h'.get? b = some o) → h'.get? S = some { cls := .type "list", dict := none, data := .seq acc' c', slots := #[] } → ItemsOf (SignAt x) acc' x.cps.size → R (.ok (.ret res)) { s with heap := h', toks := tk }) :
    wpAny (model prog w) A.in1 (Builtin.List.listExtendWith (.ref S) (.str x t) res)
      (fun fin s' => match fin with | .done f => R (.ok f) s' | .again c' => c'.quiet = true ∧ codeAny (model prog w) A c' R s') (fun e s' => R (.error e) s') s := by
  unfold Builtin.List.listExtendWith
  refine wpAny_bind (wpAny_typeOf (T := "str") (typeIs_str s x t) ?_)
  have h1 : Builtin.List.listSameRef (.ref S) (.str x t) = false := rfl
  simp only [h1, show (Value.type "str" == Value.type "list") = false from by decide, show (Value.type "str" == Value.type "tuple") = false from by decide, Bool.or_false, Bool.false_eq_true, if_false]
  refine wpAny_bind (wpAny_pyIter_str fun oI St W st => ?_)
  have hS₁ := Heap.get?_push_of_some oI hS
  have hSf : S ∉ [s.heap.objs.size] := by
    simp only [List.mem_cons, List.not_mem_nil, or_false]
    exact Nat.ne_of_lt (Heap.lt_size hS)
  have key : ∀ (h : Heap) (c₁ tk : Nat), St 0 h → (∀ b o, b ≠ S → s.heap.get? b = some o → h.get? b = some o) →
      h.get? S = some { cls := .type "list", data := .seq #[] c₁ } → codeAny (model prog w) A (.builtin "list.extend.loop" ⟨[.ref S, .ref s.heap.objs.size, res], []⟩) R { s with heap := h, toks := tk } := by
    intro h c₁ tk hst hk hS₁
    refine codeAny_extend_loopS (W A.in1 hh).toS hn S hSf res x.cps.size 0 _ #[] c₁ rfl (Nat.zero_le _) hst hS₁ (ItemsOf.nil _) fun s' acc' c' hm hS' hacc => ?_
    rw [Moved.eq_with hm]
    refine hR s'.heap s'.toks acc' c' (fun b o hb e => hm.heap b o (fun hmem => ?_) (hk b o hb e)) hS' hacc
    rcases List.mem_cons.mp hmem with e' | hmem
    · exact hb e'
    · exact absurd (Heap.lt_size e) (by rw [List.mem_singleton.mp hmem]; exact Nat.lt_irrefl _)
  refine wpAny_bind (wpAny_holding (hint_str ?_))
  refine wpAny_ite_split (fun hab => absurd hab (by decide)) (fun _ => wpAny_pure ⟨plainId_quiet PySem.F.plain_extend_loop _, key _ c₀ _ st (fun b o _ e => Heap.get?_push_of_some _ e) hS₁⟩)
theorem list_str {Q : Value → Shared → Prop} (hh : A.handled = none) (hn : x.cps.size ≤ sizeLine)
    (hQ : ∀ h' tk acc' c', (∀ b o, s.heap.get? b = some o → h'.get? b = some o) → h'.get? s.heap.objs.size = some { cls := .type "list", dict := none, data := .seq acc' c', slots := #[] } → ItemsOf (SignAt x) acc' x.cps.size → Q (.ref s.heap.objs.size) { s with heap := h', toks := tk }) :
    wpAny (model prog w) A (call (.type "list") [.str x t]) Q E s := by
  refine callType_codes (Q₁ := fun obj s₁ => obj = .ref s.heap.objs.size ∧ s₁ = { s with heap := s.heap.push { cls := .type "list", data := .seq #[] } }) PySem.F.called_list (PySem.F.typeCall_list_1 _) PySem.F.entry_list_init
    (code_list_new _ ⟨rfl, rfl⟩) fun obj s₁ h₁ => ?_
  obtain ⟨rfl, rfl⟩ := h₁
  have hS : (s.heap.push { cls := .type "list", data := .seq #[] }).get? s.heap.objs.size = some { cls := .type "list", data := .seq #[] } := Heap.get?_push_size _ rfl
  refine ⟨⟨_, hS, rfl⟩, PySem.F.args_list_init_2 _ _, ?_⟩
  show wpAny _ _ (do let old ← Builtin.List.listItems (.ref s.heap.objs.size); Builtin.List.listUpdate (.ref s.heap.objs.size) (fun _ => #[]); letGo old.toList.reverse; Builtin.List.listExtendWith (.ref s.heap.objs.size) (.str x t) .none) _ _ _
  refine wpAny_bind ?_
  unfold Builtin.List.listItems
  refine wpAny_bind (wpAny_seqItems hS rfl (wpAny_pure ?_))
  show wpAny _ _ (updateSeq s.heap.objs.size (fun _ => #[]) >>= fun _ => letGo (#[] : Array Value).toList.reverse >>= fun _ => Builtin.List.listExtendWith (.ref s.heap.objs.size) (.str x t) .none) _ _ _
  refine wpAny_bind (wpAny_updateSeq hS rfl ?_)
  have hS₂ := Heap.get?_update_self (Obj.mapSeq (fun _ => (#[] : Array Value))) hS rfl
  refine wpAny_bind (wpAny_letGo ?_)
  refine extend_str (A := A.in1) hh _ .none _ hS₂ hn fun h' tk acc' c' hk hS' hacc => ⟨rfl, hQ h' tk acc' c' (fun b o e => ?_) hS' hacc⟩
  have nb : b ≠ s.heap.objs.size := Nat.ne_of_lt (Heap.lt_size e)
  exact hk b o nb ((Heap.get?_update_other _ _ (Ne.symm nb)).trans (Heap.get?_push_of_some _ e))
end
def signs (x : Str) : List Str := x.cps.toList.map fun c => ⟨#[c]⟩
section
variable {X : Cx}
theorem cListStr (hc : X.calm = true) : CallR X (.type "list") (fun xs H Q => ∃ x, xs = [.str x] ∧ x.length ≤ sizeLine ∧ ∀ l, H l = none → Q (.ref l) (upd H l (.lst ((signs x).map V.str)))) := by
  intro pins s σ H xs us Q I r h
  obtain ⟨x, rfl, hx, q⟩ := h
  obtain ⟨u, rfl, t, rfl⟩ := vals1 r
  have hsz : x.cps.size ≤ sizeLine := hx
  refine list_str (I.ok.hd hc) hsz fun h' tk acc' c' k e it => ?_
  have hv : Vals ((signs x).map V.str) acc'.toList := by
    have go : ∀ (cs : List Nat) (vs : List Value) (o : Nat), vs.length = cs.length → (∀ (j : Nat) v, vs[j]? = some v → ∃ c u, cs[j]? = some c ∧ v = .str ⟨#[c]⟩ u) → Vals (cs.map fun c => V.str ⟨#[c]⟩) vs := by
      intro cs
      induction cs with
      | nil => intro vs o hl _; cases vs with
        | nil => exact .nil
        | cons v vs => simp at hl
      | cons c cs ih =>
        intro vs o hl hv
        cases vs with
        | nil => simp at hl
        | cons v vs =>
          obtain ⟨c', u, e1, e2⟩ := hv 0 v rfl
          simp only [List.getElem?_cons_zero, Option.some.injEq] at e1
          subst e1
          exact .cons ⟨u, e2⟩ (ih vs 0 (by simpa using hl) fun j w hw => by simpa using hv (j + 1) w (by simpa using hw))
    have := go x.cps.toList acc'.toList 0 (by rw [Array.length_toList, Array.length_toList]; exact it.1) fun j v hv => by
      obtain ⟨c, u, e1, e2⟩ := it.2 j v (by rw [← Array.getElem?_toList]; exact hv)
      exact ⟨c, u, by rw [Array.getElem?_toList]; exact e1, e2⟩
    unfold signs
    rw [List.map_map]
    exact this
  have hl : ((signs x).map V.str).length ≤ sizeLine := by
    unfold signs
    simp only [List.length_map, Array.length_toList]
    exact hsz
  exact ⟨.ref s.heap.objs.size, _, I.laid (o := .lst ((signs x).map V.str)) k (Nat.le_refl _) ⟨hl, acc'.toList, c', hv, by rw [Array.toArray_toList]; exact e⟩, rfl, q _ (I.hok.fresh (Nat.le_refl _))⟩
end

section
variable {E : DC} {W : WX} {P P' H H' : Hp} {σ σ' : L2.St} {Γ Γ' : List Sl} {X : Cx}
@[simp] def dList : List D → (List D → Prop) → Prop := fun ds Q => match ds with
  | [.lst xs] => Q xs
  | [.kst xs] => Q xs
  | [.tup xs] => Q xs
  | [.v (.str x)] => x.length ≤ sizeLine ∧ Q ((signs x).map fun y => .v (.str y))
  | _ => False
def rListH (K : PySem.W.Frag) : List V → Hp → VK → Prop := fun xs H Q => (∃ p ys, xs = [.ref p] ∧ (SqL K H p ys ∨ SqT K H p ys) ∧ ∀ l, H l = none → Q (.ref l) (upd H l (.lst ys))) ∨ ∃ x, xs = [.str x] ∧ x.length ≤ sizeLine ∧ ∀ l, H l = none → Q (.ref l) (upd H l (.lst ((signs x).map V.str)))
theorem lk_list : LkF E (rListH E.K) dList := by
  intro P H σ Γ ds vs Q Qd R i hr hQ
  unfold dList at hr
  split at hr
  · exact .inl (lk_listOf P H σ Γ _ vs Q Qd R i hr hQ)
  · exact .inl (lk_listOf P H σ Γ _ vs Q Qd R i hr hQ)
  · exact .inl (lk_listOf P H σ Γ _ vs Q Qd R i hr hQ)
  · obtain ⟨x, rfl, i1⟩ := i.one
    rw [i1.v_inv]
    refine .inr ⟨_, rfl, hr.1, fun l hl => hQ _ l _ _ (Gr.fresh _ hl) (R.fresh _ hl) hl upd_same ?_ hr.2⟩
    have := IsA.of_atoms (K := E.K) (cl := E.cl) (P := P) ((signs ‹Str›).map V.str)
    rw [List.map_map] at this
    exact this
  · exact hr.elim
theorem cList (hK : X.K = E.K) (hc : X.calm = true) : CallR X (.type "list") (rListH E.K) := by rw [← hK]; exact call_list_of.or (cListStr hc)
@[simp] def dStr : RND := fun ds Q => match ds with
  | [.v (.int i)] => i.natAbs.log2 < 1920 ∧ Q (.v (.str (toString i)))
  | [.v (.str x)] => Q (.v (.str x))
  | _ => False
theorem lk_str : LkN E (fun xs H Q => (∃ i, xs = [.int i] ∧ i.natAbs.log2 < 1920 ∧ Q (.str (toString i)) H) ∨ ∃ a, xs = [.str a] ∧ Q (.str a) H) dStr := by
  intro P H σ Γ ds vs Q Qd R i hr hQ
  unfold dStr at hr
  split at hr
  · obtain ⟨x, rfl, i1⟩ := i.one; rw [i1.v_inv]; exact .inl ⟨_, rfl, hr.1, hQ _ _ P H .refl R .v hr.2⟩
  · obtain ⟨x, rfl, i1⟩ := i.one; rw [i1.v_inv]; exact .inr ⟨_, rfl, hQ _ _ P H .refl R .v hr⟩
  · exact hr.elim
theorem cStr : CallR X (.type "str") (fun xs H Q => (∃ i, xs = [.int i] ∧ i.natAbs.log2 < 1920 ∧ Q (.str (toString i)) H) ∨ ∃ a, xs = [.str a] ∧ Q (.str a) H) := call_str_int.or SkE.call_str_str

structure IsiC (K : PySem.W.Frag) (C : Addr) : Prop where
  cl : Cls K C
  ha : PySem.W.findIn K (.ref C) "__class__" = some (some (.builtin "object.__class__"))
  hn : PySem.W.specialIn K (.builtin "object.__class__") "__get__" = some (some (.builtin "getset_descriptor.__get__"))
  htk : PySem.W.takesIn K (.builtin "object.__class__") = some true
  hm : PySem.W.mroIn K C (.type "object") = some true
def tyD (cl : Nat → Addr) : D → Option Value
  | .v .non => some (.type "NoneType")
  | .v (.bl _) => some (.type "bool")
  | .v (.int _) => some (.type "int")
  | .v (.str _) => some (.type "str")
  | .lst _ => some (.type "list")
  | .tup _ => some (.type "tuple")
  | .dic _ _ => some (.type "dict")
  | .obj c _ _ => some (.ref (cl c))
  | _ => none
def clsD : D → Option Value
  | .v (.ty n) => some (.type n)
  | .v (.ref a) => some (.ref a)
  | _ => none
def dIsi (K : PySem.W.Frag) (cl : Nat → Addr) : RND := fun ds Q => match ds with
  | [d, c] => match tyD cl d, clsD c with
    | some t, some u => match PySem.W.kitOne K t u with
      | some b => Q (.v (.bl b))
      | none => False
    | _, _ => False
  | _ => False
theorem tyD_ok (hI : ∀ c, IsiC E.K (E.cl c)) (R : Rep E P H σ Γ) {d : D} {v : V} {t : Value} (i : Is E.K E.cl P d v) (e : tyD E.cl d = some t) : TyX E.K H v t := by
  unfold tyD at e
  split at e <;> try cases e
  · rw [i.v_inv]; exact .base .non
  · rw [i.v_inv]; exact .base (.bl _)
  · rw [i.v_inv]; exact .base (.int _)
  · rw [i.v_inv]; exact .base (.str _)
  · obtain ⟨a, xs, rfl, ha, _⟩ := i.lst_inv; exact .base (.lst (R.sub _ _ ha))
  · obtain ⟨a, xs, rfl, ha, _⟩ := i.tup_inv
    rcases sqT_mono R.sub ha with (h | ⟨o, h⟩) | ⟨o, its, n, h1, h2, _⟩
    · exact .base (.tup h)
    · exact .fTuple h
    · exact .kTuple h1 h2
  · obtain ⟨a, xs, rfl, ha, _⟩ := i.dic_inv; exact .base (.dK (R.sub _ _ ha))
  · obtain ⟨a, dx, fs, rfl, ha, _⟩ := i.obj_inv
    exact .base (.ins (R.sub _ _ ha) (hI _).cl (hI _).ha (hI ‹Nat›).hn (hI ‹Nat›).htk (hI _).hm)
theorem lk_isi (hI : ∀ c, IsiC E.K (E.cl c)) : LkN E (rIsi E.K) (dIsi E.K E.cl) := by
  intro P H σ Γ ds vs Q Qd R i hr hQ
  unfold dIsi at hr
  split at hr
  · split at hr
    · rename_i t u et eu
      split at hr
      · rename_i b eb
        obtain ⟨x, y, rfl, i1, i2⟩ := i.two
        refine ⟨x, y, t, u, b, rfl, ?_, tyD_ok hI R i1 et, eb, hQ _ _ P H .refl R .v hr⟩
        unfold clsD at eu
        split at eu <;> try cases eu
        · rw [i2.v_inv]; exact .ty _
        · rw [i2.v_inv]; exact .own _
      · exact hr.elim
    · exact hr.elim
  · exact hr.elim
theorem cIsi (hK : X.K = E.K) : CallR X (.builtin "isinstance") (rIsi E.K) := by rw [← hK]; exact call_isi
end
end DL

namespace DL
open PySem L2 PySem.Calls PySem.W

theorem law_core {P : Program} {w : World} {K : Frag} {mg mb : Str → Option Value} {k : Nat} {fa a : Addr} {fd : FuncData} {x : Str} {sp : Sp} {s : Shared} {vs : List Value} {n : Nat} (H : Hp)
    (KX : K.In s.heap) (hns : s.heap.Ns mainGlobals mg) (hb : s.heap.Ns builtinsNs mb) (hbb : ∀ y : Str, y ≠ "__name__" → mb y = bootBuiltins y) (hlim : s.heap.NoLimit) (hg : s.gens = #[])
    (ha : s.heap.get? a = some { cls := .type "list", data := .seq vs.toArray n }) (hr : Room k callerA)
    (F : ∀ base : Heap, K.In base → base.Ns mainGlobals mg → FnG P w K mg base k fa fd [x] sp) (hbind : ∀ (s : Shared) (u : Value), BindsTo s fd ⟨[u], []⟩ [(x, u)])
    (hO : ∀ b, H b = none ∨ ∃ o u, H b = some (.frz o u)) (hok : HOk P w H s.heap) (hA : ∀ b, H b ≠ none → b = a) (hK : H a ≠ none → K.lookup a = none)
    (hsp : sp [.ref a] H (fun v _ => v = .bl true) E0) :
    codeAny (model P w) callerA (.call (.ref fa) ⟨[.ref a], []⟩) (fun r s' => r = .ok (.ret (.bool true)) ∧ OldK s.heap s'.heap ∧ s'.os = s.os ∧ PyProof.Rows.AllBare s'.gens) s := by
  have free : ∀ {b : Addr} {o : Obj}, s.heap.get? b = some o → o.cls ≠ .type "list" → H b = none := fun {b o} e hc => by
    cases q : H b with
    | none => rfl
    | some u =>
      have : b = a := hA b (by rw [q]; simp)
      subst this
      rw [ha] at e; cases e
      exact absurd rfl hc
  have dictFree : ∀ {b : Addr} {o : Obj} {es : Array DictEntry} {ep : Nat}, s.heap.get? b = some o → o.data = .dict es ep → H b = none := fun {b o es ep} e d => by
    cases q : H b with
    | none => rfl
    | some u =>
      have : b = a := hA b (by rw [q]; simp)
      subst this
      rw [ha] at e; cases e
      have d' : Data.seq vs.toArray n = Data.dict es ep := d
      cases d'
  have ns : ∀ {b : Addr} {m : Str → Option Value}, s.heap.Ns b m → (hidT s.heap H).Ns b m := fun {b m} h => by
    obtain ⟨o, es, ep, e, d, r⟩ := h
    exact ⟨o, es, ep, hidT_get e (dictFree e d), d, r⟩
  have kin : K.In (hidT s.heap H) := fun b o e => hidT_get (KX b o e) (by
    cases q : H b with
    | none => rfl
    | some u =>
      have : b = a := hA b (by rw [q]; simp)
      subst this
      rw [hK (by rw [q]; simp)] at e; cases e)
  have lim : (hidT s.heap H).NoLimit := by
    obtain ⟨mc, h1, h2⟩ := hlim
    exact ⟨mc, ns h1, h2⟩
  have env : Env0 P w K mg (hidT s.heap H) callerA [] s H :=
    { frames := rfl, mod := ⟨kin, ns hns, ⟨mb, ns hb, hbb⟩, lim⟩, bs := fun b o e => of_hidT e, bsz := Nat.le_of_eq (hidT_size _ _), funs := trivial, frf := fun b hb => (List.not_mem_nil hb).elim, hok := hok, bare := .of_eq hg }
  refine codeAny_mono ((F _ kin (ns hns)).go callerA [] s H ⟨[.ref a], []⟩ [.ref a] [.ref a] _ E0 rfl hr env (hbind s (.ref a)) (.cons rfl .nil) hsp) fun c s' hc => ?_
  match c, hc with
  | .error e, q =>
    obtain ⟨_, _, _, _, _, _, _, _, _, _, _, _, z⟩ := q
    exact z.elim
  | .ok .next, q => exact (show False from q).elim
  | .ok .brk, q => exact (show False from q).elim
  | .ok .cont, q => exact (show False from q).elim
  | .ok (.ret u), q =>
    obtain ⟨v, H', os, bare, un, hok', rv, qv⟩ := q
    have ev : v = .bl true := qv
    subst ev
    obtain rfl : u = Value.bool true := rv
    refine ⟨rfl, OldK.of_keep fun b o e => ?_, os, bare⟩
    rcases hO b with z | ⟨ob, u, z⟩
    · exact un.keep b o e z (fun y => nomatch y) fun y => nomatch y
    · have z' := un.frzs b ob u z
      have e1 := (hok b _ z).1
      have e2 := (hok' b _ z').1
      rw [e] at e1; cases e1
      exact e2
theorem walkG {l : OpenLaw} {n k : Nat} {q : Program} {loose : List Str} {XP : (Str → Option Value) → Heap → Prop} {YP : World → Heap → Prop} {d : DefRec} {K : Params → Frag} {sp : World → Sp} {x : Str}
    (hn : l.most = some n) (hn2 : n ≤ sizeLine) (hdf : d.params.defaults = []) (hr : Room k callerA) (hY : ∀ (w : World) (h : Heap), YP w h → (K w.params).In h)
    (F : ∀ (w : World) (mg : Str → Option Value) (fa : Addr) (h : Heap), (K w.params).In h → h.Ns mainGlobals mg → mg d.name = some (.ref fa) →
      ∃ fd : FuncData, (∀ (s : Shared) (u : Value), BindsTo s fd ⟨[u], []⟩ [(x, u)]) ∧ ∀ base : Heap, (K w.params).In base → base.Ns mainGlobals mg → FnG l.prog w (K w.params) mg base k fa fd [x] (sp w))
    (hsp : ∀ (w : World) (H : Hp) (a : Addr) (ns : List Int), ns.length ≤ n → SqL (K w.params) H a (ns.map V.int) → sp w [.ref a] H (fun v _ => v = .bl true) E0) :
    WalkO q loose XP YP l.row.toRowW d [] (fun f vs => PySem.call f vs) := by
  refine Att.attach_call hn hdf fun w s₀ s₁ mg mb fa o pm cd doc a vs ns G Y ho hd hcd hmg hobj hints hlen hg => ?_
  have KX := hY w _ Y
  obtain ⟨fd, hbi, hF⟩ := F w mg fa _ KX G.T.g hmg
  have rv := vals_ints hints
  have hl : (ns.map V.int).length ≤ sizeLine := by rw [List.length_map]; omega
  cases hk : (K w.params).lookup a with
  | some o' =>
    have e := KX a o' hk
    rw [hobj] at e; cases e
    refine law_core (fun _ => none) KX G.T.g G.T.b G.T.builtins G.T.nolimit hg hobj hr hF hbi (fun _ => .inl rfl) (fun b u z => nomatch z) (fun b z => absurd rfl z) (fun z => absurd rfl z) (hsp w _ a ns hlen (.inr ⟨_, vs.toArray, _, hk, rfl, rfl, rfl, ?_, by simpa using rv⟩))
    have := rv.length
    rw [List.size_toArray]; omega
  | none =>
    refine law_core (fun b => if b = a then some (.frz { cls := .type "list", data := .seq vs.toArray } (.lst (ns.map V.int))) else none) KX G.T.g G.T.b G.T.builtins G.T.nolimit hg hobj hr hF hbi (fun b => ?_) (fun b u z => ?_) (fun b z => ?_) (fun _ => hk) (hsp w _ a ns hlen (.inl (.inr ⟨_, if_pos rfl⟩)))
    · by_cases e : b = a
      · exact .inr ⟨_, _, if_pos e⟩
      · exact .inl (if_neg e)
    · by_cases e : b = a
      · have z' := (if_pos e).symm.trans z
        cases z'
        subst e
        exact ⟨hobj, hl, vs, _, rv, hobj⟩
      · have z' := (if_neg e).symm.trans z
        cases z'
    · by_cases e : b = a
      · exact e
      · exact absurd (if_neg e) z
end DL


namespace DL
open PySem L2 PySem.Calls

section
variable {E : DC} {W : WX} {P P' H H' : Hp} {σ σ' : L2.St} {Γ Γ' : List Sl} {X : Cx}
variable {a b c e o : Expr} {es : List Expr} {ta tb tc te : DE} {pos p apos p1 p2 : Pos} {tas : DA} {x : Str}
theorem de_glob {v : V} (hg : Gl X x) (h : ∃ u, X.mg x = some u ∧ RelV v u) (hd : (x == ("__debug__" : Str)) = false := by decide) : PE X (.Name x pos) (up E W (dC v)) := let ⟨_, h1, h2⟩ := h; cDE (pe_glob hg h1 h2 hd)
@[simp] def dIsT (f : D → Option Bool) (te : DE) : DE := fun x Γ Q => te x Γ fun d Γ1 => match f d with
  | some b => Q (.v (.bl b)) Γ1
  | none => False
structure IsTab (K : PySem.W.Frag) (cl : Nat → Addr) (v : V) (u : Value) (f : D → Option Bool) : Prop where
  cv : ClsV v u
  ok : ∀ d b, f d = some b → ∃ t, tyD cl d = some t ∧ PySem.W.kitOne K t u = some b
theorem de_isT {v : V} {u : Value} {f : D → Option Bool} (T : IsTab E.K E.cl v u f) (hI : ∀ c, IsiC E.K (E.cl c)) (hK : X.K = E.K) (hg : Gl X "isinstance") (hm : X.mg "isinstance" = none) (ha : PE X a (up E W te)) (hc : PE X c (tC v))
    (he : starEach [a, c] X.env = (false, eval a X.env) :: starEach [c] X.env := by rfl) (hs : starEach [c] X.env = (false, eval c X.env) :: starEach [] X.env := by rfl) (hpl : (backTo pos (starEach [c] X.env)).any (·.1) = false := by rfl) : PE X (.Call (.Name "isinstance" p) [a, c] [] pos) (up E W (dIsT f te)) :=
  impE (pe_callB (cIsi hK) hg hm (by rfl) (pa_cons ha (pa_cons hc pa_nil hs) he) (by decide) (by decide) he hpl) fun σ H Q h => by
    obtain ⟨P, Γ, x, Qd, R, hT, hx, hQ⟩ := h
    refine ⟨P, Γ, x, _, R, hT, hx, fun d Γ1 v1 P1 H1 g1 R1 i1 h1 => ?_⟩
    split at h1
    · rename_i k ek
      obtain ⟨t, e1, e2⟩ := T.ok _ _ ek
      exact ⟨v1, v, t, u, k, rfl, T.cv, tyD_ok hI R1 i1 e1, e2, hQ _ _ _ _ _ g1 R1 .v h1⟩
    · exact h1.elim
theorem pe_tyn {T : String} (hg : Gl X x) (hm : X.mg x = none) (hv : bootBuiltins x = some (.type T)) (hn : x ≠ "__name__" := by decide) (hd : (x == ("__debug__" : Str)) = false := by decide) : PE X (.Name x pos) (tC (.ty T)) := pe_bltn hg hm hv rfl hn hd
theorem pe_own {C : Addr} (hg : Gl X x) (hm : X.mg x = some (.ref C)) (hd : (x == ("__debug__" : Str)) = false := by decide) : PE X (.Name x pos) (tC (.ref C)) := pe_glob hg hm rfl hd
@[simp] def isTab (n b i s l t d : Bool) (own : List Bool) : D → Option Bool
  | .v .non => some n
  | .v (.bl _) => some b
  | .v (.int _) => some i
  | .v (.str _) => some s
  | .lst _ => some l
  | .tup _ => some t
  | .dic _ _ => some d
  | .obj c _ _ => own[c]?
  | _ => none
theorem IsTab.of {K : PySem.W.Frag} {cl : Nat → Addr} {v : V} {u : Value} {n b i s l t d : Bool} {own : List Bool} (cv : ClsV v u) (h1 : PySem.W.kitOne K (.type "NoneType") u = some n) (h2 : PySem.W.kitOne K (.type "bool") u = some b) (h3 : PySem.W.kitOne K (.type "int") u = some i)
    (h4 : PySem.W.kitOne K (.type "str") u = some s) (h5 : PySem.W.kitOne K (.type "list") u = some l) (h6 : PySem.W.kitOne K (.type "tuple") u = some t) (h7 : PySem.W.kitOne K (.type "dict") u = some d) (ho : ∀ c k, own[c]? = some k → PySem.W.kitOne K (.ref (cl c)) u = some k) : IsTab K cl v u (isTab n b i s l t d own) :=
  ⟨cv, fun dd k e => by
    unfold isTab at e
    split at e <;> try cases e
    · exact ⟨_, rfl, h1⟩
    · exact ⟨_, rfl, h2⟩
    · exact ⟨_, rfl, h3⟩
    · exact ⟨_, rfl, h4⟩
    · exact ⟨_, rfl, h5⟩
    · exact ⟨_, rfl, h6⟩
    · exact ⟨_, rfl, h7⟩
    · exact ⟨_, rfl, ho _ _ e⟩⟩
end
section
variable {K : PySem.W.Frag} {x qual : Str} {params : Arguments} {body : List Stmt} {scope : Scope} {dV kV doc pm cdv ct : Value} {an : Option Addr} {ps ks : List Str} {m n : Nat} {src : List Src}
theorem bnd_mk (h : ∀ fs us ws : List Value, fs.length = m → us.length = n → ws.length = ks.length → bindArgs (PySem.W.fnOf x qual params body scope dV kV doc pm an cdv ct) ⟨fs ++ us, ks.zip ws⟩ = pure (ps.zip (fs ++ pick .none src us ws))) : Bnd K (PySem.W.fnOf x qual params body scope dV kV doc pm an cdv ct) ps m n ks src :=
  ⟨fun s fs us ws _ a b c => .of_eq (h fs us ws a b c)⟩
theorem bnd_dflt {T : Addr} {o : Obj} {its : Array Value} {nn : Nat} (lT : K.lookup T = some o) (oT : o.data = .seq its nn) (h : ∀ fs us ws : List Value, fs.length = m → us.length = n → ws.length = ks.length → ∃ k, bindArgs (PySem.W.fnOf x qual params body scope (.ref T) kV doc pm an cdv ct) ⟨fs ++ us, ks.zip ws⟩ = seqItems? (.ref T) >>= k ∧ k (some its) = pure (ps.zip (fs ++ pick .none src us ws))) :
    Bnd K (PySem.W.fnOf x qual params body scope (.ref T) kV doc pm an cdv ct) ps m n ks src :=
  ⟨fun s fs us ws X a b c => by
    obtain ⟨k, e1, e2⟩ := h fs us ws a b c
    exact L2.BindsTo.of_looks fun M => by rw [e1]; exact looks_items X lT oT (.of_pure e2)⟩
theorem funx_mk {st : Stmt} {f : Addr} {oc : Value} {od an : Option Addr} {osl : Array (Option Value)} (l : K.lookup f = some ⟨oc, od, .func (PySem.W.fnOf x qual (defArgs st) (defBody st) (defScope st) dV kV doc pm an cdv ct), osl⟩)
    (c : PySem.W.codeIn K cdv qual = true) : FunX K x qual st f (PySem.W.fnOf x qual (defArgs st) (defBody st) (defScope st) dV kV doc pm an cdv ct) := ⟨⟨oc, od, dV, kV, doc, pm, an, cdv, ct, osl, rfl, l, c⟩⟩
def spLaw (K : PySem.W.Frag) (n : Nat) : Sp := fun vs H Q _ => ∃ (a : Addr) (ns : List Int), vs = [.ref a] ∧ SqL K H a (ns.map V.int) ∧ ns.length ≤ n ∧ ∀ H', Q (.bl true) H'
def cLaw (n : Nat) : Con := fun ds Q _ => ∃ ns : List Int, ds = [.kst (ns.map fun i => .v (.int i))] ∧ ns.length ≤ n ∧ Q (.v (.bl true))
theorem law_sp {P : Program} {w : World} {K : PySem.W.Frag} {mg : Str → Option Value} {base : Heap} {cl : Nat → Addr} {f : Addr} {fd : FuncData} {k n : Nat} (F : FnG P w K mg base k f fd ps (spD K cl (cLaw n))) : FnG P w K mg base k f fd ps (spLaw K n) :=
  F.imp fun vs H Q X ⟨a, ns, e, hS, hl, q⟩ => by
    subst e
    refine ⟨H, [.kst (ns.map fun i => .v (.int i))], fun d => d = .v (.bl true), fun _ => False, Same.refl _, .cons (.kst hS ?_) .nil, ⟨ns, rfl, hl, rfl⟩, fun d v P' H' _ i e => ?_, fun _ _ _ _ _ _ _ z => z.elim⟩
    · have := IsA.of_atoms (K := K) (cl := cl) (P := H) (ns.map V.int)
      rw [List.map_map] at this
      exact this
    · subst e
      rw [i.v_inv]; exact q H'
end
end DL
namespace DL
open PySem L2 PySem.W
section
variable {K : PySem.W.Frag} {A C : Addr} {T : String} {b : Bool}
theorem kit_rt (h : mroIn K A (.type T) = some b) (m : kitMeta T = true) : kitOne K (.ref A) (.type T) = some b := by
  unfold kitOne
  rw [if_neg (by show ¬ (Value.ref A == Value.type T) = true; intro z; cases z)]
  unfold kitCls
  dsimp only
  rw [if_pos m]
  exact h
theorem kit_tr (h : mroIn K C (.type "object") = some true) (ht : typeIn K (.ref C) = some (.type "type")) (hm : (fastBuiltinMro T).map (·.contains (.ref C)) = some false) : kitOne K (.type T) (.ref C) = some false := by
  unfold kitOne
  rw [if_neg (by show ¬ (Value.type T == Value.ref C) = true; intro z; cases z)]
  unfold kitCls
  dsimp only
  have e : (clsIn K C).isSome = true := by
    unfold mroIn at h
    cases q : clsIn K C with
    | none => rw [q] at h; cases h
    | some _ => rfl
  rw [if_pos (by rw [e, ht]; rfl)]
  exact hm
theorem kit_same : kitOne K (.ref C) (.ref C) = some true := by
  unfold kitOne
  rw [if_pos (beq_self_eq_true _)]
theorem kit_rr (h : mroIn K A (.ref C) = some b) (ht : typeIn K (.ref C) = some (.type "type")) (hc : mroIn K C (.type "object") = some true) (ne : (A == C) = false) : kitOne K (.ref A) (.ref C) = some b := by
  unfold kitOne
  rw [if_neg (by intro z; have := beq_iff_eq.mp z; cases this; simp at ne)]
  unfold kitCls
  dsimp only
  have e : (clsIn K C).isSome = true := by
    unfold mroIn at hc
    cases q : clsIn K C with
    | none => rw [q] at hc; cases hc
    | some _ => rfl
  rw [if_pos (by rw [e, ht]; rfl)]
  exact h
end
end DL

namespace DL
open PySem L2
@[simp] theorem isN_non : isN (.v .non) = true := by simp [isN]
@[simp] theorem isN_str {x : Str} : isN (.v (.str x)) = false := by simp [isN]
@[simp] theorem isN_int {x : Int} : isN (.v (.int x)) = false := by simp [isN]
@[simp] theorem isN_bl {x : Bool} : isN (.v (.bl x)) = false := by simp [isN]
@[simp] theorem isN_tup {x : List D} : isN (.tup x) = false := by simp [isN]
@[simp] theorem isN_lst {x : List D} : isN (.lst x) = false := by simp [isN]
@[simp] theorem isN_obj {c : Nat} {n : List Str} {x : List D} : isN (.obj c n x) = false := by simp [isN]
@[simp] theorem eqb_ii {i j : Int} : eqb (.v (.int i)) (.v (.int j)) = some (decide (i = j)) := by
  simp only [eqb, scal, if_true]
  congr 1
  by_cases h : i = j
  · subst h; simp
  · simp [h]
@[simp] theorem eqb_ss {i j : Str} : eqb (.v (.str i)) (.v (.str j)) = some (decide (i = j)) := by
  simp only [eqb, scal, if_true]
  congr 1
  by_cases h : i = j
  · subst h; simp
  · simp [h]
theorem atI_nat {α : Type} (xs : List α) (k : Nat) {x : α} (h : xs[k]? = some x) : atI xs (k : Int) = some x := by
  unfold atI ixN
  have hl : k < xs.length := (List.getElem?_eq_some_iff.mp h).1
  rw [if_pos (by omega), if_pos (by omega)]
  simpa using h
@[simp] theorem atI_0 {α : Type} (x : α) (xs : List α) : atI (x :: xs) 0 = some x := atI_nat (x :: xs) 0 rfl
@[simp] theorem atI_1 {α : Type} (x y : α) (xs : List α) : atI (x :: y :: xs) 1 = some y := atI_nat (x :: y :: xs) 1 rfl
@[simp] theorem atI_2 {α : Type} (x y z : α) (xs : List α) : atI (x :: y :: z :: xs) 2 = some z := atI_nat (x :: y :: z :: xs) 2 rfl
@[simp] theorem atI_3 {α : Type} (x y z u : α) (xs : List α) : atI (x :: y :: z :: u :: xs) 3 = some u := atI_nat (x :: y :: z :: u :: xs) 3 rfl
theorem atI_in {α : Type} (xs : List α) (i : Int) (h0 : 0 ≤ i) (h1 : i < xs.length) : ∃ x, atI xs i = some x ∧ x ∈ xs := by
  obtain ⟨k, rfl⟩ := Int.eq_ofNat_of_zero_le h0
  have hk : k < xs.length := by exact_mod_cast h1
  exact ⟨xs[k], atI_nat xs k (List.getElem?_eq_getElem hk), List.getElem_mem hk⟩

def sml (x : Str) : Prop := ∀ c ∈ x.cps.toList, c < 128
theorem sml_append {x y : Str} (h : sml x) (k : sml y) : sml (x ++ y) := fun c hc => by
  rw [Str.cps_append, Array.toList_append, List.mem_append] at hc
  exact hc.elim (h c) (k c)
theorem sml_empty : sml Str.empty := fun c hc => by
  have : c ∈ ([] : List Nat) := hc
  cases this
@[simp] theorem Str_len_append (a b : Str) : (a ++ b).length = a.length + b.length := Str.length_append a b

theorem join_len (sep : Str) : ∀ ts : List Str, (Str.join sep ts).length ≤ (ts.map fun t => t.length + sep.length).sum
  | [] => by simp [Str.join, Str.empty, Str.length]
  | [x] => by simp [Str.join]
  | x :: y :: r => by
    have ih := join_len sep (y :: r)
    simp only [Str.join, Str_len_append, List.map_cons, List.sum_cons] at ih ⊢
    omega
mutual
def wt : PyData → Nat
  | .none => 4
  | .bool _ => 5
  | .int i => (((toString i : String) : Str)).length
  | .str x => 10 * x.length + 2
  | .list xs => wtA xs + 2
  | .tuple xs => wtA xs + 3
  | .dict _ => 0
def wtA : List PyData → Nat
  | [] => 0
  | x :: xs => wt x + 2 + wtA xs
end
mutual
def smlP : PyData → Prop
  | .none => True
  | .bool _ => True
  | .int i => i.natAbs.log2 < 1920
  | .str x => sml x
  | .list xs => smlA xs
  | .tuple xs => smlA xs
  | .dict _ => False
def smlA : List PyData → Prop
  | [] => True
  | x :: xs => smlP x ∧ smlA xs
end
mutual
theorem shown_le : ∀ d : PyData, smlP d → d.shown.length ≤ wt d ∧ d.showable = true
  | .none, _ => by simp only [PyData.shown, wt, PyData.showable]; exact ⟨by decide +kernel, trivial⟩
  | .bool b, _ => by cases b <;> (simp only [PyData.shown, wt, PyData.showable]; exact ⟨by decide +kernel, trivial⟩)
  | .int i, h => by simp only [smlP] at h; simp only [PyData.shown, wt, PyData.showable]; exact ⟨Nat.le_refl _, by simpa using h⟩
  | .str x, h => by
    simp only [smlP] at h; simp only [PyData.shown, wt, PyData.showable]
    exact ⟨StrLaws.reprText_len x fun c hc => Nat.lt_trans (h c hc) (by decide), trivial⟩
  | .list xs, h => by
    simp only [smlP] at h
    obtain ⟨h1, h2⟩ := shownA_le xs h
    have hj := join_len ", " (PyData.shownAll xs)
    rw [PyData.shown_list]
    simp only [wt, PyData.showable, Str_len_append]
    have e1 : ((("[" : String) : Str)).length = 1 := by decide +kernel
    have e2 : ((("]" : String) : Str)).length = 1 := by decide +kernel
    exact ⟨by omega, h2⟩
  | .tuple xs, h => by
    simp only [smlP] at h
    obtain ⟨h1, h2⟩ := shownA_le xs h
    have hj := join_len ", " (PyData.shownAll xs)
    rw [PyData.shown_tuple]
    simp only [wt, PyData.showable, Str_len_append]
    have e1 : ((("(" : String) : Str)).length = 1 := by decide +kernel
    have e2 : (((if xs.length == 1 then ",)" else ")" : String) : Str)).length ≤ 2 := by split <;> decide +kernel
    exact ⟨by omega, h2⟩
  | .dict _, h => by simp only [smlP] at h
theorem shownA_le : ∀ xs : List PyData, smlA xs → ((PyData.shownAll xs).map fun t => t.length + (((", " : String) : Str)).length).sum ≤ wtA xs ∧ PyData.showableAll xs = true
  | [], _ => by simp [PyData.shownAll, wtA, PyData.showableAll]
  | x :: xs, h => by
    simp only [smlA] at h
    obtain ⟨h1, h2⟩ := shown_le x h.1
    obtain ⟨h3, h4⟩ := shownA_le xs h.2
    have e1 : ((", " : String) : Str).length = 2 := by decide +kernel
    simp only [PyData.shownAll, wtA, PyData.showableAll, List.map_cons, List.sum_cons, h2, h4, e1] at h3 ⊢
    exact ⟨by omega, rfl⟩
end
end DL

namespace DL
open PySem L2
inductive B where
  | nil
  | node (c : Str) (l r : B)
namespace B
def size : B → Nat
  | nil => 0
  | node _ l r => 1 + size l + size r
def depth : B → Nat
  | nil => 0
  | node _ l r => 1 + max (depth l) (depth r)
def line : B → Str
  | nil => "-"
  | node c nil nil => c
  | node c l r => c ++ "(" ++ line l ++ "," ++ line r ++ ")"
def routes : B → List Str
  | nil => []
  | node _ l r => ([("" : Str)] ++ (routes l).map (("L" : Str) ++ ·)) ++ (routes r).map (("R" : Str) ++ ·)
def spots : B → Str → List Str
  | nil, _ => []
  | node _ l r, w => ([w] ++ spots l (w ++ "L")) ++ spots r (w ++ "R")
end B
def let1 (c : Str) : Prop := ∃ k : Nat, k < 26 ∧ c = ⟨#[97 + k]⟩
def B.ok : B → Prop
  | .nil => True
  | .node c l r => let1 c ∧ l.ok ∧ r.ok
def encB : B → D
  | .nil => .v .non
  | .node c l r => .tup [.v (.str c), encB l, encB r]
def tNames : List Str := ["letter", "first", "second", "line", "nodes", "depth", "routes"]
def encT : B → D
  | .nil => .v .non
  | .node c l r => .obj 0 tNames [.v (.str c), encT l, encT r, .v (.str (B.node c l r).line), .v (.int (B.node c l r).size), .v (.int (B.node c l r).depth), .tup ((B.node c l r).routes.map fun x => .v (.str x))]
@[simp] theorem ix_letter : idx "letter" tNames = some 0 := by decide +kernel
@[simp] theorem ixn_letter : idx "letter" [] = none := by decide +kernel
@[simp] theorem ix_first : idx "first" tNames = some 1 := by decide +kernel
@[simp] theorem ixn_first : idx "first" [("letter" : Str)] = none := by decide +kernel
@[simp] theorem ix_second : idx "second" tNames = some 2 := by decide +kernel
@[simp] theorem ixn_second : idx "second" [("letter" : Str), ("first" : Str)] = none := by decide +kernel
@[simp] theorem ix_line : idx "line" tNames = some 3 := by decide +kernel
@[simp] theorem ixn_line : idx "line" [("letter" : Str), ("first" : Str), ("second" : Str)] = none := by decide +kernel
@[simp] theorem ix_nodes : idx "nodes" tNames = some 4 := by decide +kernel
@[simp] theorem ixn_nodes : idx "nodes" [("letter" : Str), ("first" : Str), ("second" : Str), ("line" : Str)] = none := by decide +kernel
@[simp] theorem ix_depth : idx "depth" tNames = some 5 := by decide +kernel
@[simp] theorem ixn_depth : idx "depth" [("letter" : Str), ("first" : Str), ("second" : Str), ("line" : Str), ("nodes" : Str)] = none := by decide +kernel
@[simp] theorem ix_routes : idx "routes" tNames = some 6 := by decide +kernel
@[simp] theorem ixn_routes : idx "routes" [("letter" : Str), ("first" : Str), ("second" : Str), ("line" : Str), ("nodes" : Str), ("depth" : Str)] = none := by decide +kernel
theorem tNames_eq : ([("letter" : Str), "first", "second", "line", "nodes", "depth", "routes"]) = tNames := rfl
theorem let1.len {c : Str} (h : let1 c) : c.length = 1 := by obtain ⟨k, _, rfl⟩ := h; rfl
theorem let1.sml {c : Str} (h : let1 c) : sml c := by
  obtain ⟨k, hk, rfl⟩ := h
  intro x hx
  have : x ∈ [97 + k] := hx
  simp at this; omega
def low : Str := "abcdefghijklmnopqrstuvwxyz"
theorem low_has : ∀ k < 26, (!(Builtin.Str.occurrences low ⟨#[97 + k]⟩ 0 low.length 1).isEmpty) = true := by decide +kernel
theorem let1.inb {c : Str} (h : let1 c) : inb (.v (.str c)) (.v (.str low)) = some true := by
  obtain ⟨k, hk, rfl⟩ := h
  show some (!(Builtin.Str.occurrences low ⟨#[97 + k]⟩ 0 low.length 1).isEmpty) = some true
  rw [low_has k hk]
def B.isNil : B → Bool
  | .nil => true
  | _ => false
@[simp] theorem isNil_nil : B.nil.isNil = true := rfl
@[simp] theorem isNil_node {c : Str} {l r : B} : (B.node c l r).isNil = false := rfl
theorem isNil_eq {b : B} (h : b.isNil = true) : b = .nil := by cases b <;> first | rfl | cases h
@[simp] theorem encB_isN {b : B} : isN (encB b) = b.isNil := by cases b <;> simp [encB, isN]
@[simp] theorem encT_isN {b : B} : isN (encT b) = b.isNil := by cases b <;> simp [encT, isN]
@[simp] theorem e_len : (("" : String) : Str).length = 0 := by decide +kernel
@[simp] theorem l1_len : (("L" : String) : Str).length = 1 := by decide +kernel
@[simp] theorem r1_len : (("R" : String) : Str).length = 1 := by decide +kernel
@[simp] theorem op_len : (("(" : String) : Str).length = 1 := by decide +kernel
@[simp] theorem cl_len : ((")" : String) : Str).length = 1 := by decide +kernel
@[simp] theorem co_len : (("," : String) : Str).length = 1 := by decide +kernel
@[simp] theorem da_len : (("-" : String) : Str).length = 1 := by decide +kernel
theorem line_eq {c : Str} {l r : B} (h : ¬ (l = .nil ∧ r = .nil)) : (B.node c l r).line = c ++ "(" ++ l.line ++ "," ++ r.line ++ ")" := by
  cases l <;> cases r <;> first | rfl | exact absurd ⟨rfl, rfl⟩ h
theorem line_len : ∀ {b : B}, b.ok → b.line.length ≤ 5 * b.size + 1
  | .nil, _ => by simp only [B.line, B.size, da_len]; omega
  | .node c l r, h => by
    have h1 := line_len h.2.1
    have h2 := line_len h.2.2
    have hc := h.1.len
    by_cases e : l = .nil ∧ r = .nil
    · obtain ⟨rfl, rfl⟩ := e
      simp only [B.line, B.size]; omega
    · rw [line_eq e]
      simp only [Str_len_append, B.size, op_len, cl_len, co_len]; omega
theorem sml_lit {s : Str} (h : (s.cps.toList.all fun c => decide (c < 128)) = true) : sml s := fun c hc => by
  have := List.all_eq_true.mp h c hc
  simpa using this
theorem line_sml : ∀ {b : B}, b.ok → sml b.line
  | .nil, _ => sml_lit (by decide +kernel)
  | .node c l r, h => by
    have h1 := line_sml h.2.1
    have h2 := line_sml h.2.2
    have hc := h.1.sml
    by_cases e : l = .nil ∧ r = .nil
    · obtain ⟨rfl, rfl⟩ := e
      exact hc
    · rw [line_eq e]
      exact sml_append (sml_append (sml_append (sml_append (sml_append hc (sml_lit (by decide +kernel))) h1) (sml_lit (by decide +kernel))) h2) (sml_lit (by decide +kernel))
theorem depth_le : ∀ b : B, b.depth ≤ b.size
  | .nil => Nat.le_refl _
  | .node c l r => by have := depth_le l; have := depth_le r; simp only [B.depth, B.size]; omega
theorem routes_len : ∀ b : B, b.routes.length = b.size
  | .nil => rfl
  | .node c l r => by simp only [B.routes, B.size, List.length_append, List.length_map, routes_len l, routes_len r, List.length_cons, List.length_nil]
theorem routes_txt : ∀ b : B, ∀ x ∈ b.routes, x.length ≤ b.depth ∧ sml x
  | .nil, x, h => by simp [B.routes] at h
  | .node c l r, x, h => by
    simp only [B.routes, List.mem_append, List.mem_singleton, List.mem_map] at h
    rcases h with (rfl | ⟨y, hy, rfl⟩) | ⟨y, hy, rfl⟩
    · exact ⟨by rw [e_len]; exact Nat.zero_le _, sml_lit (by decide +kernel)⟩
    · have := routes_txt l y hy
      exact ⟨by simp only [Str_len_append, B.depth, l1_len]; omega, sml_append (sml_lit (by decide +kernel)) this.2⟩
    · have := routes_txt r y hy
      exact ⟨by simp only [Str_len_append, B.depth, r1_len]; omega, sml_append (sml_lit (by decide +kernel)) this.2⟩
theorem e_append (x : Str) : (("" : String) : Str) ++ x = x := by
  have : (("" : String) : Str) = Str.empty := by decide +kernel
  rw [this, Str.empty_append]
theorem append_e (x : Str) : x ++ (("" : String) : Str) = x := by
  have : (("" : String) : Str) = Str.empty := by decide +kernel
  rw [this, Str.append_empty]
theorem spots_eq : ∀ (b : B) (w : Str), b.spots w = b.routes.map (w ++ ·)
  | .nil, w => rfl
  | .node c l r, w => by
    simp only [B.spots, B.routes, spots_eq l, spots_eq r, List.map_append, List.map_map, List.map_cons, List.map_nil, append_e]
    congr 1
    · congr 1
      apply List.map_congr_left; intro x _; simp [Str.append_assoc]
    · apply List.map_congr_left; intro x _; simp [Str.append_assoc]
theorem spots_len (b : B) (w : Str) : (b.spots w).length = b.size := by rw [spots_eq, List.length_map, routes_len]
theorem spots_e (b : B) : b.spots "" = b.routes := by
  rw [spots_eq]
  conv => rhs; rw [← List.map_id b.routes]
  apply List.map_congr_left; intro x _; exact e_append x
end DL

namespace DL
open PySem L2
inductive Zip2 {α β : Type} (P : α → β → Prop) : List α → List β → Prop where
  | nil : Zip2 P [] []
  | cons {a b as bs} (h : P a b) (t : Zip2 P as bs) : Zip2 P (a :: as) (b :: bs)
theorem Zip2.length {α β : Type} {P : α → β → Prop} {as : List α} {bs : List β} (h : Zip2 P as bs) : bs.length = as.length := by
  induction h with
  | nil => rfl
  | cons _ _ ih => simp [ih]
theorem Zip2.all {α β : Type} {P : α → β → Prop} {R : β → Prop} {as : List α} {bs : List β} (h : Zip2 P as bs) (hr : ∀ a b, P a b → R b) : ∀ b ∈ bs, R b := by
  induction h with
  | nil => intro b hb; cases hb
  | cons h t ih =>
    intro b hb
    rcases List.mem_cons.mp hb with rfl | hb
    · exact hr _ _ h
    · exact ih b hb
theorem Zip2.map {α β : Type} {f : α → β} {as : List α} {bs : List β} (h : Zip2 (fun a b => b = f a) as bs) : bs = as.map f := by
  induction h with
  | nil => rfl
  | cons h t ih => rw [h, ih]; rfl
theorem lc_one {i : Nat} {te : DE} {vs : List Nat} {Γ : DS} {Q : List D → DS → Prop} (P : D → D → Prop) (hw : ∀ d, wipeD ((wipeD Γ vs).set i (.d d)) vs = wipeD Γ vs) : ∀ (ds acc : List D), acc.length + ds.length < sizeLine →
    (∀ d ∈ ds, ∀ k : D → DS → Prop, (∀ y, P d y → k y ((wipeD Γ vs).set i (.d d))) → te (fun _ _ => False) ((wipeD Γ vs).set i (.d d)) k) → (∀ ys, Zip2 P ds ys → Q (acc ++ ys) Γ) → dLcL (dName i) dYes te vs Γ Q ds acc
  | [], acc, _, _, h => by have := h [] .nil; rw [List.append_nil] at this; unfold dLcL; exact this
  | d :: ds, acc, hl, he, h => by
    rw [List.length_cons] at hl
    unfold dLcL
    refine ⟨hw d, rfl, ?_⟩
    rw [if_pos rfl]
    refine he d (List.mem_cons_self ..) _ fun y hy => ⟨rfl, by omega, ?_⟩
    refine lc_one P hw ds (acc ++ [y]) (by rw [List.length_append, List.length_singleton]; omega) (fun d' hd => he d' (List.mem_cons_of_mem _ hd)) fun ys hz => ?_
    rw [List.append_assoc]
    exact h (y :: ys) (.cons hy hz)
theorem lc_fun {i : Nat} {te : DE} {vs : List Nat} {Γ : DS} {Q : List D → DS → Prop} (f : D → D) (hw : ∀ d, wipeD ((wipeD Γ vs).set i (.d d)) vs = wipeD Γ vs) (ds : List D) (hl : ds.length < sizeLine)
    (he : ∀ d ∈ ds, ∀ k : D → DS → Prop, k (f d) ((wipeD Γ vs).set i (.d d)) → te (fun _ _ => False) ((wipeD Γ vs).set i (.d d)) k) (h : Q (ds.map f) Γ) : dLcL (dName i) dYes te vs Γ Q ds [] :=
  lc_one (fun d y => y = f d) hw ds [] (by simpa using hl) (fun d hd k hk => he d hd k (hk _ rfl)) fun ys hz => by rw [hz.map]; simpa using h
theorem szl : sizeLine = 16777216 := sizeLine_eq
theorem rngD_mem {lo : Int} {n : Nat} {d : D} (h : d ∈ rngD lo n) : ∃ i : Int, d = .v (.int i) ∧ lo ≤ i ∧ i < lo + n := by
  unfold rngD at h
  obtain ⟨k, hk, rfl⟩ := List.mem_map.mp h
  have := List.mem_range.mp hk
  exact ⟨_, rfl, by omega, by omega⟩
theorem rngD_len {lo : Int} {n : Nat} : (rngD lo n).length = n := by unfold rngD; simp
@[simp] theorem strsD_strs : ∀ ys : List Str, strsD (ys.map fun x => D.v (.str x)) = some ys
  | [] => rfl
  | y :: ys => by simp only [List.map_cons, strsD, strsD_strs ys, Option.map_some]
@[simp] theorem intsD_ints : ∀ ys : List Int, intsD (ys.map fun x => D.v (.int x)) = some ys
  | [] => rfl
  | y :: ys => by simp only [List.map_cons, intsD, intsD_ints ys, Option.map_some]
@[simp] theorem blsD_bls : ∀ ys : List Bool, blsD (ys.map fun x => D.v (.bl x)) = some ys
  | [] => rfl
  | y :: ys => by simp only [List.map_cons, blsD, blsD_bls ys, Option.map_some]
end DL

namespace K01
open PySem L2 DL

def tab_Tree : D → Option Bool := isTab false false false false false false false [true]
def tab_str : D → Option Bool := isTab false false false true false false false [false]
def t__law_pull : DST := (dSeq (dAsg (dOp dAdd (dStk 0 2) (dC (.int 1))) (dGStk 0 2)) (dSeq (dIfS (dTest (dOp dGt (dStk 0 0) (dC (.int 0)))) (dSeq (dAsg (dCB dDivmod (dCons (dStk 0 0) (dCons (dVar 1) dNil))) (dGTup 2 (dGCons (dGStk 0 0) (dGCons (dName 2) dGNil)))) (dRet (dVar 2))) dNext) (dSeq (dAsg (dOp dMod (dCB dInt (dCons (dOp dAdd (dOp dMul (dStk 0 1) (dC (.int 40093))) (dOp dMul (dC (.int 5417)) (dStk 0 2))) dNil)) (dC (.int 2147483587))) (dGStk 0 1)) (dRet (dOp dMod (dCB dInt (dCons (dOp dDiv (dStk 0 1) (dC (.int 512))) dNil)) (dVar 1))))))
def t__law_colours (c__law_pull : Con) : DST := (dSeq (dAsg (dTup (dCons (dCall c__law_pull 2 0 [.p 0, .p 1] (dCons (dVar 0) (dCons (dC (.int 26)) dNil)) dNil) (dCons (dOp dIxR (dFz (dLst (dCons (dC (.int 1)) (dCons (dC (.int 5)) (dCons (dC (.int 7)) (dCons (dC (.int 9)) (dCons (dC (.int 11)) (dCons (dC (.int 3)) dNil)))))))) (dCall c__law_pull 2 0 [.p 0, .p 1] (dCons (dVar 0) (dCons (dC (.int 6)) dNil)) dNil)) dNil))) (dGTup 2 (dGCons (dName 2) (dGCons (dName 3) dGNil)))) (dRet (dSM dJoin (dC (.str "")) (dCons (dFz (dLc (dItR1 (dCons (dVar 1) dNil)) (dName 4) dYes (dOp dIxR (dC (.str "abcdefghijklmnopqrstuvwxyz")) (dOp dMod (dCB dInt (dCons (dOp dAdd (dVar 2) (dOp dMul (dVar 3) (dVar 4))) dNil)) (dC (.int 26)))) [4])) dNil))))
def t__law_pick (c__law_pull : Con) : DST := (dRet (dOp dIxR (dVar 1) (dCall c__law_pull 2 0 [.p 0, .p 1] (dCons (dVar 0) (dCons (dCB dLen (dCons (dVar 1) dNil)) dNil)) dNil)))
def t__law_bough (c__law_pull : Con) (c__law_pick : Con) (c__law_bough : Con) : DST := (dSeq (dPar 4 5 (dCons (dCall c__law_pick 2 0 [.p 0, .p 1] (dCons (dVar 0) (dCons (dFz (dCF dList (dCons (dVar 1) dNil))) dNil)) dNil) (dCons (dIf (dTest (dOp dGt (dVar 2) (dC (.int 1)))) (dCall c__law_pull 2 0 [.p 0, .p 1] (dCons (dVar 0) (dCons (dC (.int 6)) dNil)) dNil) (dC (.int 5))) dNil))) (dSeq (dIfS (dTest (dOp dEq (dVar 5) (dC (.int 5)))) (dRet (dTup (dCons (dVar 4) (dCons (dC .non) (dCons (dC .non) dNil))))) dNext) (dSeq (dIfS (dTest (dOp dEq (dVar 5) (dC (.int 0)))) (dRet (dTup (dCons (dVar 4) (dCons (dCall c__law_bough 3 0 [.p 0, .p 1, .p 2] (dCons (dVar 0) (dCons (dVar 1) (dCons (dOp (dI2 fun i j => i - j) (dVar 2) (dC (.int 1))) dNil))) dNil) (dCons (dC .non) dNil))))) dNext) (dSeq (dIfS (dTest (dOp dEq (dVar 5) (dC (.int 1)))) (dRet (dTup (dCons (dVar 4) (dCons (dC .non) (dCons (dCall c__law_bough 3 0 [.p 0, .p 1, .p 2] (dCons (dVar 0) (dCons (dVar 1) (dCons (dOp (dI2 fun i j => i - j) (dVar 2) (dC (.int 1))) dNil))) dNil) dNil))))) dNext) (dSeq (dIfS (dTest (dOp dEq (dVar 2) (dC (.int 2)))) (dRet (dTup (dCons (dVar 4) (dCons (dTup (dCons (dCall c__law_pick 2 0 [.p 0, .p 1] (dCons (dVar 0) (dCons (dFz (dCF dList (dCons (dVar 1) dNil))) dNil)) dNil) (dCons (dC .non) (dCons (dC .non) dNil)))) (dCons (dC .non) dNil))))) dNext) (dSeq (dSet 3 (dOp dAdd (dC (.int 1)) (dCall c__law_pull 2 0 [.p 0, .p 1] (dCons (dVar 0) (dCons (dOp (dI2 fun i j => i - j) (dVar 2) (dC (.int 2))) dNil)) dNil))) (dRet (dTup (dCons (dVar 4) (dCons (dCall c__law_bough 3 0 [.p 0, .p 1, .p 2] (dCons (dVar 0) (dCons (dVar 1) (dCons (dVar 3) dNil))) dNil) (dCons (dCall c__law_bough 3 0 [.p 0, .p 1, .p 2] (dCons (dVar 0) (dCons (dVar 1) (dCons (dOp (dI2 fun i j => i - j) (dOp (dI2 fun i j => i - j) (dVar 2) (dC (.int 1))) (dVar 3)) dNil))) dNil) dNil)))))))))))
def t__law_shape (c__law_shape : Con) : DST := (dSeq (dIfS (dTest (dIsN (dVar 0))) (dRet (dTup (dCons (dC (.int 0)) (dCons (dC (.int 0)) dNil)))) dNext) (dSeq (dPar 1 2 (dCons (dCall c__law_shape 1 0 [.p 0] (dCons (dOp dIxR (dVar 0) (dC (.int 1))) dNil) dNil) (dCons (dCall c__law_shape 1 0 [.p 0] (dCons (dOp dIxR (dVar 0) (dC (.int 2))) dNil) dNil) dNil))) (dRet (dTup (dCons (dOp dAdd (dOp dAdd (dC (.int 1)) (dOp dIxR (dVar 1) (dC (.int 0)))) (dOp dIxR (dVar 2) (dC (.int 0)))) (dCons (dOp dAdd (dC (.int 1)) (dCB dMax2 (dCons (dOp dIxR (dVar 1) (dC (.int 1))) (dCons (dOp dIxR (dVar 2) (dC (.int 1))) dNil)))) dNil))))))
def t_Tree_repr : DST := (dRet (dJoined [(dC (.str "Tree of ")), (dFmt (dFld "nodes" (dVar 0))), (dC (.str " nodes"))]))
def t_Tree_str : DST := (dRet (dCB dStr (dCons (dFld "line" (dVar 0)) dNil)))
def t_Tree_paths : DST := (dRet (dFld "routes" (dVar 0)))
def t_Tree_levels : DST := (dRet (dFld "depth" (dVar 0)))
def t_Tree_size : DST := (dRet (dFld "nodes" (dVar 0)))
def t_Tree_tint : DST := (dRet (dFld "letter" (dVar 0)))
def t__law_line (c__law_line : Con) : DST := (dSeq (dIfS (dTest (dIsN (dVar 0))) (dRet (dC (.str "-"))) dNext) (dSeq (dIfS (dAnd (dTest (dIsN (dOp dIxR (dVar 0) (dC (.int 1))))) (dTest (dIsN (dOp dIxR (dVar 0) (dC (.int 2)))))) (dRet (dOp dIxR (dVar 0) (dC (.int 0)))) dNext) (dRet (dOp dAdd (dOp dAdd (dOp dAdd (dOp dAdd (dOp dAdd (dOp dIxR (dVar 0) (dC (.int 0))) (dC (.str "("))) (dCall c__law_line 1 0 [.p 0] (dCons (dOp dIxR (dVar 0) (dC (.int 1))) dNil) dNil)) (dC (.str ","))) (dCall c__law_line 1 0 [.p 0] (dCons (dOp dIxR (dVar 0) (dC (.int 2))) dNil) dNil)) (dC (.str ")"))))))
def t__law_spots (c__law_spots : Con) : DST := (dSeq (dIfS (dTest (dIsN (dVar 0))) (dRet (dFz (dLst dNil))) dNext) (dRet (dOp dAdd (dOp dAdd (dFz (dLst (dCons (dVar 1) dNil))) (dCall c__law_spots 2 0 [.p 0, .p 1] (dCons (dOp dIxR (dVar 0) (dC (.int 1))) (dCons (dOp dAdd (dVar 1) (dC (.str "L"))) dNil)) dNil)) (dCall c__law_spots 2 0 [.p 0, .p 1] (dCons (dOp dIxR (dVar 0) (dC (.int 2))) (dCons (dOp dAdd (dVar 1) (dC (.str "R"))) dNil)) dNil))))
def t_Tree_right : DST := (dRet (dFld "second" (dVar 0)))
def t_Tree_left : DST := (dRet (dFld "first" (dVar 0)))
def t__law_is (c__law_shape : Con) (c_Tree_repr : Con) (c_Tree_str : Con) (c_Tree_paths : Con) (c_Tree_levels : Con) (c_Tree_size : Con) (c_Tree_tint : Con) (c__law_line : Con) (c__law_spots : Con) (c__law_is : Con) (c_Tree_right : Con) (c_Tree_left : Con) : DST := (dSeq (dIfS (dOr (dTest (dIsN (dVar 1))) (dTest (dIsN (dVar 0)))) (dRet (dAndV (dIsN (dVar 1)) (dIsN (dVar 0)))) dNext) (dSeq (dAsg (dCall c__law_shape 1 0 [.p 0] (dCons (dVar 1) dNil) dNil) (dGTup 2 (dGCons (dName 4) (dGCons (dName 5) dGNil)))) (dSeq (dSet 2 (dFz (dLst (dCons (dProp 0 c_Tree_tint (dVar 0)) (dCons (dProp 0 c_Tree_size (dVar 0)) (dCons (dProp 0 c_Tree_levels (dVar 0)) (dCons (dProp 0 c_Tree_paths (dVar 0)) (dCons (dCB (rOwn 0 c_Tree_str) (dCons (dVar 0) dNil)) (dCons (dCB (rOwn 0 c_Tree_repr) (dCons (dVar 0) dNil)) dNil))))))))) (dSeq (dSet 3 (dFz (dLst (dCons (dOp dIxR (dVar 1) (dC (.int 0))) (dCons (dVar 4) (dCons (dVar 5) (dCons (dCB dTuple (dCons (dCall c__law_spots 2 0 [.p 0, .p 1] (dCons (dVar 1) (dCons (dC (.str "")) dNil)) dNil) dNil)) (dCons (dCall c__law_line 1 0 [.p 0] (dCons (dVar 1) dNil) dNil) dNil)))))))) (dSeq (dIfS (dOr (dTest (dOp dNe (dCB dRepr (dCons (dVar 2) dNil)) (dCB dRepr (dCons (dOp dAdd (dVar 3) (dFz (dLst (dCons (dOp dAdd (dOp dAdd (dC (.str "Tree of ")) (dCB dStr (dCons (dVar 4) dNil))) (dC (.str " nodes"))) dNil)))) dNil)))) (dNot (dTru (dIsT tab_Tree (dVar 0))))) (dRet (dC (.bl false))) dNext) (dRet (dAndV (dCall c__law_is 2 0 [.p 0, .p 1] (dCons (dProp 0 c_Tree_left (dVar 0)) (dCons (dOp dIxR (dVar 1) (dC (.int 1))) dNil)) dNil) (dCall c__law_is 2 0 [.p 0, .p 1] (dCons (dProp 0 c_Tree_right (dVar 0)) (dCons (dOp dIxR (dVar 1) (dC (.int 2))) dNil)) dNil))))))))
def t_is_tint : DST := (dRet (dAndV (dIsT tab_str (dVar 0)) (dAndV (dOp dEq (dCB dLen (dCons (dVar 0) dNil)) (dC (.int 1))) (dOp dIn (dVar 0) (dC (.str "abcdefghijklmnopqrstuvwxyz"))))))
def t_side_text : DST := (dRet (dIf (dTest (dIsN (dVar 0))) (dC (.str "-")) (dFld "line" (dVar 0))))
def t_side_size : DST := (dRet (dIf (dTest (dIsN (dVar 0))) (dC (.int 0)) (dFld "nodes" (dVar 0))))
def t_side_levels : DST := (dRet (dIf (dTest (dIsN (dVar 0))) (dC (.int 0)) (dFld "depth" (dVar 0))))
def t_side_routes : DST := (dRet (dIf (dTest (dIsN (dVar 1))) (dTup dNil) (dCB dTuple (dCons (dFz (dLc (dItT (dFld "routes" (dVar 1))) (dName 2) dYes (dOp dAdd (dVar 0) (dVar 2)) [2])) dNil))))
def t_Tree_init (c_is_tint : Con) (c_side_text : Con) (c_side_size : Con) (c_side_levels : Con) (c_side_routes : Con) : DST := (dSeq (dIfS (dNot (dTru (dCall c_is_tint 1 0 [.p 0] (dCons (dVar 1) dNil) dNil))) dNever dNext) (dSeq (dFor (dItT (dTup (dCons (dVar 2) (dCons (dVar 3) dNil)))) (dName 4) (dIfS (dAnd (dTest (dNotN (dVar 4))) (dNot (dTru (dIsT tab_Tree (dVar 4))))) dNever dNext)) (dSeq (dSelf 0 "letter" (dVar 1)) (dSeq (dSelf 0 "first" (dVar 2)) (dSeq (dSelf 0 "second" (dVar 3)) (dSeq (dSet 5 (dAndV (dIsN (dVar 2)) (dIsN (dVar 3)))) (dSeq (dSelf 0 "line" (dIf (dTru (dVar 5)) (dVar 1) (dJoined [(dFmt (dVar 1)), (dC (.str "(")), (dFmt (dCall c_side_text 1 0 [.p 0] (dCons (dVar 2) dNil) dNil)), (dC (.str ",")), (dFmt (dCall c_side_text 1 0 [.p 0] (dCons (dVar 3) dNil) dNil)), (dC (.str ")"))]))) (dSeq (dSelf 0 "nodes" (dOp dAdd (dOp dAdd (dC (.int 1)) (dCall c_side_size 1 0 [.p 0] (dCons (dVar 2) dNil) dNil)) (dCall c_side_size 1 0 [.p 0] (dCons (dVar 3) dNil) dNil))) (dSeq (dSelf 0 "depth" (dOp dAdd (dC (.int 1)) (dCB dMaxL (dCons (dFz (dLst (dCons (dCall c_side_levels 1 0 [.p 0] (dCons (dVar 2) dNil) dNil) (dCons (dCall c_side_levels 1 0 [.p 0] (dCons (dVar 3) dNil) dNil) dNil)))) dNil)))) (dSelf 0 "routes" (dOp dAdd (dOp dAdd (dTup (dCons (dC (.str "")) dNil)) (dCall c_side_routes 2 0 [.p 0, .p 1] (dCons (dC (.str "L")) (dCons (dVar 2) dNil)) dNil)) (dCall c_side_routes 2 0 [.p 0, .p 1] (dCons (dC (.str "R")) (dCons (dVar 3) dNil)) dNil))))))))))))
def t__law_named (c_Tree_init : ConI) (c__law_named : Con) : DST := (dSeq (dIfS (dAnd (dTest (dIsN (dOp dIxR (dVar 0) (dC (.int 1))))) (dTest (dIsN (dOp dIxR (dVar 0) (dC (.int 2)))))) (dRet (dMake 0 c_Tree_init 0 1 [.k 0, .n, .n] dNil (dCons (dOp dIxR (dVar 0) (dC (.int 0))) dNil))) dNext) (dSeq (dIfS (dTest (dIsN (dOp dIxR (dVar 0) (dC (.int 2))))) (dRet (dMake 0 c_Tree_init 2 0 [.p 0, .p 1, .n] (dCons (dOp dIxR (dVar 0) (dC (.int 0))) (dCons (dCall c__law_named 1 0 [.p 0] (dCons (dOp dIxR (dVar 0) (dC (.int 1))) dNil) dNil) dNil)) dNil)) dNext) (dSeq (dIfS (dTest (dIsN (dOp dIxR (dVar 0) (dC (.int 1))))) (dRet (dMake 0 c_Tree_init 1 1 [.p 0, .n, .k 0] (dCons (dOp dIxR (dVar 0) (dC (.int 0))) dNil) (dCons (dCall c__law_named 1 0 [.p 0] (dCons (dOp dIxR (dVar 0) (dC (.int 2))) dNil) dNil) dNil))) dNext) (dRet (dMake 0 c_Tree_init 0 3 [.k 2, .k 1, .k 0] dNil (dCons (dCall c__law_named 1 0 [.p 0] (dCons (dOp dIxR (dVar 0) (dC (.int 2))) dNil) dNil) (dCons (dCall c__law_named 1 0 [.p 0] (dCons (dOp dIxR (dVar 0) (dC (.int 1))) dNil) dNil) (dCons (dOp dIxR (dVar 0) (dC (.int 0))) dNil))))))))
def t__law_grown (c_Tree_init : ConI) (c__law_grown : Con) : DST := (dSeq (dIfS (dTest (dIsN (dVar 0))) (dRet (dC .non)) dNext) (dRet (dMake 0 c_Tree_init 3 0 [.p 0, .p 1, .p 2] (dCons (dOp dIxR (dVar 0) (dC (.int 0))) (dCons (dCall c__law_grown 1 0 [.p 0] (dCons (dOp dIxR (dVar 0) (dC (.int 1))) dNil) dNil) (dCons (dCall c__law_grown 1 0 [.p 0] (dCons (dOp dIxR (dVar 0) (dC (.int 2))) dNil) dNil) dNil))) dNil)))
def t__law_right (c__law_colours : Con) (c__law_pull : Con) (c__law_bough : Con) (c__law_is : Con) (c__law_named : Con) (c__law_grown : Con) : DST := (dSeq (dSet 1 (dCall c__law_colours 2 0 [.p 0, .p 1] (dCons (dVar 0) (dCons (dOp dAdd (dC (.int 1)) (dCall c__law_pull 2 0 [.p 0, .p 1] (dCons (dVar 0) (dCons (dC (.int 3)) dNil)) dNil)) dNil)) dNil)) (dSeq (dSet 2 (dCall c__law_bough 3 0 [.p 0, .p 1, .p 2] (dCons (dVar 0) (dCons (dVar 1) (dCons (dOp dAdd (dC (.int 1)) (dCall c__law_pull 2 0 [.p 0, .p 1] (dCons (dVar 0) (dCons (dC (.int 40)) dNil)) dNil)) dNil))) dNil)) (dRet (dAndV (dCall c__law_is 2 0 [.p 0, .p 1] (dCons (dCall c__law_grown 1 0 [.p 0] (dCons (dVar 2) dNil) dNil) (dCons (dVar 2) dNil)) dNil) (dCall c__law_is 2 0 [.p 0, .p 1] (dCons (dCall c__law_named 1 0 [.p 0] (dCons (dVar 2) dNil) dNil) (dCons (dVar 2) dNil)) dNil)))))
def t__law_stock : DST := (dSeq (dSet 2 (dIf (dTest (dOp dLt (dVar 1) (dCB dLen (dCons (dVar 0) dNil)))) (dOp dIxR (dVar 0) (dVar 1)) (dOp dAdd (dOp dMul (dC (.int 7)) (dVar 1)) (dC (.int 3))))) (dSeq (dSet 3 (dOp dAdd (dC (.int 90001)) (dOp dMul (dC (.int 6143)) (dVar 1)))) (dSeq (dFor (dItL (dOp dAdd (dSl (dVar 0) dNoPart (dPart (dC (.int 5)))) (dFz (dLst (dCons (dVar 2) dNil))))) (dName 4) (dSet 3 (dOp dMod (dCB dInt (dCons (dOp dAdd (dOp dMul (dVar 3) (dC (.int 31081))) (dVar 4)) dNil)) (dC (.int 2147483587))))) (dRet (dMkStk (dCons (dIf (dOr (dTest (dOp dLt (dVar 2) (dC (.int 0)))) (dTest (dOp dGe (dVar 2) (dOp dPow (dC (.int 10)) (dC (.int 18)))))) (dCB dAbs (dCons (dVar 2) dNil)) (dC (.int 0))) (dCons (dVar 3) (dCons (dC (.int 0)) dNil))))))))
def t_law (c__law_right : Con) (c__law_stock : Con) : DST := (dRet (dCB dAll (dCons (dFz (dLc (dItR1 (dCons (dCB dMax2 (dCons (dC (.int 2)) (dCons (dCB dMin2 (dCons (dCB dLen (dCons (dVar 0) dNil)) (dCons (dC (.int 8)) dNil))) dNil))) dNil)) (dName 1) dYes (dCall c__law_right 1 0 [.p 0] (dCons (dCall c__law_stock 2 0 [.p 0, .p 1] (dCons (dVar 0) (dCons (dVar 1) dNil)) dNil) dNil) dNil) [1])) dNil)))
end K01

namespace K01
open PySem L2 DL
def cPull : Con := fun ds Q _ => ∃ top : Int, ds = [.stk, .v (.int top)] ∧ 0 < top ∧ top < 1073741824 ∧ ∀ r : Int, 0 ≤ r → r < top → Q (.v (.int r))
theorem p_pull (ds : List D) (Q : D → Prop) (R : XD → Prop) (h : cPull ds Q R) : t__law_pull (conE Q R) (entry 3 ds) := by
  obtain ⟨top, rfl, h0, h1, hq⟩ := h
  simp [t__law_pull, stkOk, CDiv, CMul]
  refine fun z hz => ⟨by omega, fun y hy => ?_⟩
  split
  · exact fun z hz => ⟨⟨h0, h1⟩, Int.ediv_nonneg hz (Int.le_of_lt h0), hq _ (Int.emod_nonneg _ (by omega)) (Int.emod_lt_of_pos _ h0)⟩
  · refine fun z hz hz2 c hc => ⟨⟨Int.emod_nonneg _ (by decide), Int.lt_trans (Int.emod_lt_of_pos _ (by decide)) (by decide)⟩, fun u hu hu2 => ⟨h0, hq _ (Int.emod_nonneg _ (by omega)) (Int.emod_lt_of_pos _ h0)⟩⟩
def cPick : Con := fun ds Q _ => ∃ (m : D) (xs : List D), ds = [.stk, m] ∧ (m = .lst xs ∨ m = .tup xs) ∧ 0 < xs.length ∧ xs.length < 1000000 ∧ ∀ x ∈ xs, Q x
theorem p_pick (ds : List D) (Q : D → Prop) (R : XD → Prop) (h : cPick ds Q R) : t__law_pick cPull (conE Q R) (entry 2 ds) := by
  obtain ⟨m, xs, rfl, hm, h0, h1, hq⟩ := h
  rcases hm with rfl | rfl
  all_goals
    simp [t__law_pick]
    refine ⟨xs.length, rfl, by omega, by omega, fun r r0 r1 => ?_⟩
    obtain ⟨x, hx, hm⟩ := atI_in xs r r0 r1
    simp [hx, hq x hm]
theorem stock_loop {a b c : Sl} : ∀ (is : List Int) (De : DEnds) (y : Int) (s : Sl), 0 ≤ y → y < 2147483648 → (∀ (y : Int) (s : Sl), 0 ≤ y → y < 2147483648 → De.nx [a, b, c, .d (.v (.int y)), s]) →
    dForL (dName 4) (dSet 3 (dOp dMod (dCB dInt (dCons (dOp dAdd (dOp dMul (dVar 3) (dC (.int 31081))) (dVar 4)) dNil)) (dC (.int 2147483587)))) De (is.map fun i => .v (.int i)) [a, b, c, .d (.v (.int y)), s]
  | [], De, y, s, h0, h1, h => h y s h0 h1
  | i :: is, De, y, s, h0, h1, h => by
    have ih := stock_loop (a := a) (b := b) (c := c) is De ((y * 31081 + i) % 2147483587) (.d (.v (.int i))) (Int.emod_nonneg _ (by decide)) (Int.lt_trans (Int.emod_lt_of_pos _ (by decide)) (by decide)) h
    rw [List.map_cons]
    unfold dForL
    simp [CMul]
    simpa using ih
def cStock : Con := fun ds Q _ => ∃ (ns : List Int) (t : Int), ds = [.kst (ns.map fun i => .v (.int i)), .v (.int t)] ∧ 0 ≤ t ∧ t < 8 ∧ ns.length ≤ 63 ∧ Q .stk
theorem p_stock (ds : List D) (Q : D → Prop) (R : XD → Prop) (h : cStock ds Q R) : t__law_stock (conE Q R) (entry 5 ds) := by
  obtain ⟨ns, t, rfl, h0, h1, hl, hq⟩ := h
  have hcut : ∃ cs : List Int, cutD (ns.map fun i => D.v (.int i)) none (some 5) = cs.map (fun i => D.v (.int i)) ∧ cs.length ≤ 63 := by
    unfold cutD
    rw [← List.map_drop, ← List.map_take]
    refine ⟨_, rfl, ?_⟩
    rw [List.length_take, List.length_drop]
    omega
  obtain ⟨cs, hcs, hcl⟩ := hcut
  have fin : ∀ (z y : Int) (s : Sl), 0 ≤ y → y < 2147483648 → dRet (dMkStk (dCons (dIf (dOr (dTest (dOp dLt (dVar 2) (dC (.int 0)))) (dTest (dOp dGe (dVar 2) (dOp dPow (dC (.int 10)) (dC (.int 18)))))) (dCB dAbs (dCons (dVar 2) dNil)) (dC (.int 0))) (dCons (dVar 3) (dCons (dC (.int 0)) dNil)))) (conE Q R) [.d (.kst (ns.map fun i => .v (.int i))), .d (.v (.int t)), .d (.v (.int z)), .d (.v (.int y)), s] := fun z y s y0 y1 => by
    by_cases hz : z < 0
    · simp [CPow, hz]
      exact ⟨by omega, y0, y1, hq⟩
    · by_cases h2 : 1000000000000000000 ≤ z
      · simp [CPow, hz, h2]
        exact ⟨by omega, y0, y1, hq⟩
      · simp [CPow, hz, h2]
        exact ⟨y0, y1, hq⟩
  have key : ∀ z : Int, 1 ≤ sizeLine ∧ (cutD (ns.map fun i => D.v (.int i)) none (some 5)).length + 1 ≤ sizeLine ∧ dForL (dName 4) (dSet 3 (dOp dMod (dCB dInt (dCons (dOp dAdd (dOp dMul (dVar 3) (dC (.int 31081))) (dVar 4)) dNil)) (dC (.int 2147483587)))) { nx := dRet (dMkStk (dCons (dIf (dOr (dTest (dOp dLt (dVar 2) (dC (.int 0)))) (dTest (dOp dGe (dVar 2) (dOp dPow (dC (.int 10)) (dC (.int 18)))))) (dCB dAbs (dCons (dVar 2) dNil)) (dC (.int 0))) (dCons (dVar 3) (dCons (dC (.int 0)) dNil)))) (conE Q R), rt := fun d x => Q d, ex := fun e x => R e } (cutD (ns.map fun i => D.v (.int i)) none (some 5) ++ [D.v (.int z)]) [.d (.kst (ns.map fun i => .v (.int i))), .d (.v (.int t)), .d (.v (.int z)), .d (.v (.int (90001 + 6143 * t))), .no] := fun z => by
    rw [hcs]
    refine ⟨by rw [szl]; decide, by rw [List.length_map, szl]; omega, ?_⟩
    have e : (cs.map fun i => D.v (.int i)) ++ [D.v (.int z)] = (cs ++ [z]).map fun i => D.v (.int i) := by simp
    rw [e]
    exact stock_loop (cs ++ [z]) _ _ _ (by omega) (by omega) fun y s y0 y1 => fin z y s y0 y1
  simp [t__law_stock, CMul]
  split
  · rename_i hlt
    obtain ⟨d, e, hm⟩ := atI_in (ns.map fun i => D.v (.int i)) t h0 (by rw [List.length_map]; exact hlt)
    rw [e]
    obtain ⟨z, _, rfl⟩ := List.mem_map.mp hm
    exact key z
  · exact key _
def cols (s : Str) : Prop := s.cps.toList ≠ [] ∧ s.length ≤ 64 ∧ ∀ c ∈ s.cps.toList, ∃ k : Nat, k < 26 ∧ c = 97 + k
theorem join_cps : ∀ ys : List Str, (Str.join "" ys).cps.toList = ys.flatMap fun y => y.cps.toList
  | [] => rfl
  | [x] => by simp [Str.join]
  | x :: y :: r => by
    have ih := join_cps (y :: r)
    show ((x ++ "" ++ Str.join "" (y :: r)) : Str).cps.toList = _
    rw [append_e, Str.cps_append, Array.toList_append, ih]
    rfl
theorem join_cols {ys : List Str} (h : ∀ y ∈ ys, let1 y) (h0 : ys ≠ []) (h1 : ys.length ≤ 64) : cols (Str.join "" ys) := by
  have e := join_cps ys
  refine ⟨?_, ?_, fun c hc => ?_⟩
  · rw [e]
    cases ys with
    | nil => exact absurd rfl h0
    | cons y r =>
      obtain ⟨k, _, rfl⟩ := h y (List.mem_cons_self ..)
      simp
  · have : (Str.join "" ys).length = (ys.flatMap fun y => y.cps.toList).length := by rw [← e]; simp [Str.length]
    rw [this, List.length_flatMap]
    clear e this h0
    have hs : ∀ zs : List Str, (∀ y ∈ zs, let1 y) → (zs.map fun y => y.cps.toList.length).sum = zs.length := fun zs => by
      induction zs with
      | nil => intro _; rfl
      | cons z zs ih =>
        intro hz
        obtain ⟨k, _, rfl⟩ := hz z (List.mem_cons_self ..)
        rw [List.map_cons, List.sum_cons, ih fun y hy => hz y (List.mem_cons_of_mem _ hy)]
        simp; omega
    rw [hs ys h]; exact h1
  · rw [e] at hc
    obtain ⟨y, hy, hc⟩ := List.mem_flatMap.mp hc
    obtain ⟨k, hk, rfl⟩ := h y hy
    have : c = 97 + k := by simpa using hc
    exact ⟨k, hk, this⟩
theorem cols_signs {s : Str} (h : cols s) : (∀ c ∈ signs s, let1 c) ∧ 0 < (signs s).length ∧ (signs s).length ≤ 64 := by
  obtain ⟨h0, h1, h2⟩ := h
  refine ⟨fun c hc => ?_, ?_, ?_⟩
  · unfold signs at hc
    obtain ⟨x, hx, rfl⟩ := List.mem_map.mp hc
    obtain ⟨k, hk, rfl⟩ := h2 x hx
    exact ⟨k, hk, rfl⟩
  · unfold signs
    rw [List.length_map]
    exact List.length_pos_iff.mpr h0
  · unfold signs
    rw [List.length_map]
    simpa [Str.length] using h1
theorem low_list : low.cps.toList = (List.range 26).map fun k => 97 + k := by decide +kernel
theorem low_at (i : Int) (h0 : 0 ≤ i) (h1 : i < 26) : ∃ k : Nat, k < 26 ∧ atI low.cps.toList i = some (97 + k) := by
  obtain ⟨x, e, hm⟩ := atI_in low.cps.toList i h0 (by rw [low_list]; simpa using h1)
  rw [low_list] at hm
  obtain ⟨k, hk, rfl⟩ := List.mem_map.mp hm
  exact ⟨k, List.mem_range.mp hk, e⟩
def cCol : Con := fun ds Q _ => ∃ n : Int, ds = [.stk, .v (.int n)] ∧ 1 ≤ n ∧ n ≤ 64 ∧ ∀ s, cols s → Q (.v (.str s))
theorem zip_strs {P : D → D → Prop} {as bs : List D} (h : Zip2 P as bs) (hp : ∀ a b, P a b → ∃ c, b = .v (.str c) ∧ let1 c) : ∃ ys : List Str, bs = ys.map (fun x => D.v (.str x)) ∧ (∀ y ∈ ys, let1 y) ∧ ys.length = as.length := by
  induction h with
  | nil => exact ⟨[], rfl, fun _ h => (List.not_mem_nil h).elim, rfl⟩
  | cons h t ih =>
    obtain ⟨c, rfl, hc⟩ := hp _ _ h
    obtain ⟨ys, rfl, h1, h2⟩ := ih
    refine ⟨c :: ys, rfl, fun y hy => ?_, by simp [h2]⟩
    rcases List.mem_cons.mp hy with rfl | hy
    · exact hc
    · exact h1 y hy
theorem p_colours (ds : List D) (Q : D → Prop) (R : XD → Prop) (h : cCol ds Q R) : t__law_colours cPull (conE Q R) (entry 5 ds) := by
  obtain ⟨n, rfl, h0, h1, hq⟩ := h
  simp [t__law_colours, cPull]
  refine fun r r0 r1 => ⟨by rw [szl]; decide, fun r' r2 r3 => ?_⟩
  obtain ⟨d, e, hm⟩ := atI_in [D.v (V.int 1), D.v (V.int 5), D.v (V.int 7), D.v (V.int 9), D.v (V.int 11), D.v (V.int 3)] r' r2 (by simpa using r3)
  rw [e]
  have hd : ∃ p : Int, d = .v (.int p) := by
    simp at hm
    rcases hm with rfl | rfl | rfl | rfl | rfl | rfl <;> exact ⟨_, rfl⟩
  obtain ⟨p, rfl⟩ := hd
  refine ⟨by rw [szl]; decide, by omega, by omega, by simp [Sl.own], ?_⟩
  refine lc_one (fun _ y => ∃ c, y = .v (.str c) ∧ let1 c) (fun d => rfl) _ _ (by rw [rngD_len, szl]; simp; omega) (fun d hd k hk => ?_) (fun ys hz => ?_)
  · obtain ⟨i, rfl, i0, i1⟩ := rngD_mem hd
    obtain ⟨x, hx, ex⟩ := low_at ((r + p * i) % 26) (Int.emod_nonneg _ (by decide)) (Int.emod_lt_of_pos _ (by decide))
    have ex' : atI (Str.ofString "abcdefghijklmnopqrstuvwxyz").cps.toList ((r + p * i) % 26) = some (97 + x) := ex
    simp [CMul]
    refine ⟨by omega, by rw [szl]; decide +kernel, ?_⟩
    rw [ex']
    exact hk _ ⟨_, rfl, x, hx, rfl⟩
  · obtain ⟨ss, rfl, h2, h3⟩ := zip_strs hz fun _ _ h => h
    rw [rngD_len] at h3
    have hc := join_cols h2 (by intro z; rw [z] at h3; simp at h3; omega) (by omega)
    have hz : ∀ zs : List Str, (∀ y ∈ zs, let1 y) → (zs.map fun x => x.length).sum = zs.length := fun zs => by
      induction zs with
      | nil => intro _; rfl
      | cons z zs ih =>
        intro hz
        rw [List.map_cons, List.sum_cons, ih fun y hy => hz y (List.mem_cons_of_mem _ hy), (hz z (List.mem_cons_self ..)).len, List.length_cons]
        omega
    simp
    refine ⟨by rw [hz ss h2]; omega, hq _ ?_⟩
    have : Txt.join (Str.ofString "") ss = Str.join "" ss := StrLaws.glued_eq_join _ _
    rw [this]; exact hc
end K01

namespace K01
open PySem L2 DL
def c0 : Con := fun _ _ _ => False
def prev (c : Nat → Con) : Nat → Con
  | 0 => c0
  | n + 1 => c n
def cB (f : B → D) : Nat → Con := fun n ds Q _ => ∃ b : B, ds = [encB b] ∧ b.ok ∧ b.size ≤ n ∧ n ≤ 64 ∧ Q (f b)
def cLine := cB fun b => .v (.str b.line)
theorem p_line (n : Nat) (ds : List D) (Q : D → Prop) (R : XD → Prop) (h : cLine n ds Q R) : t__law_line (prev cLine n) (conE Q R) (entry 1 ds) := by
  obtain ⟨b, rfl, hb, hn, h64, hq⟩ := h
  cases b with
  | nil => simpa [t__law_line, encB, B.line] using hq
  | node c l r =>
    simp only [B.size] at hn
    obtain ⟨n, rfl⟩ : ∃ m, n = m + 1 := ⟨n - 1, by omega⟩
    have hl := line_len hb.2.1
    have hr := line_len hb.2.2
    have hc := hb.1.len
    have main : ∀ _ : ¬ (l = .nil ∧ r = .nil), t__law_line (prev cLine (n + 1)) (conE Q R) (entry 1 [encB (.node c l r)]) := fun hne => by
      simp only [line_eq hne] at hq
      have e : (l.isNil && r.isNil) = false := by cases l <;> cases r <;> first | rfl | exact absurd ⟨rfl, rfl⟩ hne
      simp [t__law_line, encB]
      cases h1 : l.isNil <;> cases h2 : r.isNil <;> simp [h1, h2] at e ⊢
      all_goals refine ⟨by rw [szl]; omega, l, rfl, hb.2.1, by omega, by omega, ?_⟩
      all_goals simp
      all_goals refine ⟨by rw [szl]; omega, by rw [szl]; omega, r, rfl, hb.2.2, by omega, by omega, ?_⟩
      all_goals simp
      all_goals exact ⟨by rw [szl]; omega, by rw [szl]; omega, hq⟩
    cases l with
    | nil => cases r with
      | nil => simpa [t__law_line, encB, B.line] using hq
      | node => exact main (by simp)
    | node => exact main (by simp)
def cShape := cB fun b => .tup [.v (.int b.size), .v (.int b.depth)]
theorem p_shape (n : Nat) (ds : List D) (Q : D → Prop) (R : XD → Prop) (h : cShape n ds Q R) : t__law_shape (prev cShape n) (conE Q R) (entry 3 ds) := by
  obtain ⟨b, rfl, hb, hn, h64, hq⟩ := h
  cases b with
  | nil => simpa [t__law_shape, encB, B.size, B.depth, szl] using hq
  | node c l r =>
    simp only [B.size] at hn
    obtain ⟨n, rfl⟩ : ∃ m, n = m + 1 := ⟨n - 1, by omega⟩
    simp [t__law_shape, encB]
    refine ⟨l, rfl, hb.2.1, by omega, by omega, r, rfl, hb.2.2, by omega, by omega, ?_⟩
    simp [szl]
    have e : (1 : Int) + (if l.depth < r.depth then (r.depth : Int) else l.depth) = ((B.node c l r).depth : Int) := by
      simp only [B.depth]; split <;> omega
    have e2 : (1 : Int) + l.size + r.size = ((B.node c l r).size : Int) := by simp only [B.size]; omega
    simpa [e, e2] using hq
def cSpots : Nat → Con := fun n ds Q _ => ∃ (b : B) (w : Str), ds = [encB b, .v (.str w)] ∧ b.ok ∧ b.size ≤ n ∧ n ≤ 64 ∧ w.length + b.size ≤ 200 ∧ Q (.lst ((b.spots w).map fun x => .v (.str x)))
theorem p_spots (n : Nat) (ds : List D) (Q : D → Prop) (R : XD → Prop) (h : cSpots n ds Q R) : t__law_spots (prev cSpots n) (conE Q R) (entry 2 ds) := by
  obtain ⟨b, w, rfl, hb, hn, h64, hw, hq⟩ := h
  cases b with
  | nil => simpa [t__law_spots, encB, B.spots, szl] using hq
  | node c l r =>
    simp only [B.size] at hn hw
    obtain ⟨n, rfl⟩ : ∃ m, n = m + 1 := ⟨n - 1, by omega⟩
    simp [t__law_spots, encB]
    refine ⟨by rw [szl]; decide, by rw [szl]; omega, l, _, rfl, hb.2.1, by omega, by omega, by rw [Str_len_append, l1_len]; omega, ?_⟩
    simp [spots_len]
    refine ⟨by rw [szl]; omega, by rw [szl]; omega, r, _, rfl, hb.2.2, by omega, by omega, by rw [Str_len_append, r1_len]; omega, ?_⟩
    simp [spots_len]
    refine ⟨by rw [szl]; omega, ?_⟩
    simpa [B.spots] using hq
def cT (f : B → D) : Con := fun ds Q _ => ∃ b : B, ds = [encT b] ∧ b.ok ∧ b.size ≤ 64 ∧ b.isNil = false ∧ Q (f b)
def cT0 (f : B → D) : Con := fun ds Q _ => ∃ b : B, ds = [encT b] ∧ b.ok ∧ b.size ≤ 64 ∧ Q (f b)
def B.tint : B → Str
  | .nil => ""
  | .node c _ _ => c
def B.left : B → B
  | .nil => .nil
  | .node _ l _ => l
def B.right : B → B
  | .nil => .nil
  | .node _ _ r => r
theorem p_tint (ds : List D) (Q : D → Prop) (R : XD → Prop) (h : cT (fun b => .v (.str (B.tint b))) ds Q R) : t_Tree_tint (conE Q R) (entry 1 ds) := by
  obtain ⟨b, rfl, hb, h64, hn, hq⟩ := h
  cases b with
  | nil => simp at hn
  | node c l r => simpa [t_Tree_tint, encT, B.tint, B.left, B.right] using hq
theorem p_size (ds : List D) (Q : D → Prop) (R : XD → Prop) (h : cT (fun b => .v (.int b.size)) ds Q R) : t_Tree_size (conE Q R) (entry 1 ds) := by
  obtain ⟨b, rfl, hb, h64, hn, hq⟩ := h
  cases b with
  | nil => simp at hn
  | node c l r => simpa [t_Tree_size, encT, B.tint, B.left, B.right] using hq
theorem p_levels (ds : List D) (Q : D → Prop) (R : XD → Prop) (h : cT (fun b => .v (.int b.depth)) ds Q R) : t_Tree_levels (conE Q R) (entry 1 ds) := by
  obtain ⟨b, rfl, hb, h64, hn, hq⟩ := h
  cases b with
  | nil => simp at hn
  | node c l r => simpa [t_Tree_levels, encT, B.tint, B.left, B.right] using hq
theorem p_paths (ds : List D) (Q : D → Prop) (R : XD → Prop) (h : cT (fun b => .tup (b.routes.map fun x => .v (.str x))) ds Q R) : t_Tree_paths (conE Q R) (entry 1 ds) := by
  obtain ⟨b, rfl, hb, h64, hn, hq⟩ := h
  cases b with
  | nil => simp at hn
  | node c l r => simpa [t_Tree_paths, encT, B.tint, B.left, B.right] using hq
theorem p_left (ds : List D) (Q : D → Prop) (R : XD → Prop) (h : cT (fun b => encT (B.left b)) ds Q R) : t_Tree_left (conE Q R) (entry 1 ds) := by
  obtain ⟨b, rfl, hb, h64, hn, hq⟩ := h
  cases b with
  | nil => simp at hn
  | node c l r => simpa [t_Tree_left, encT, B.tint, B.left, B.right] using hq
theorem p_right (ds : List D) (Q : D → Prop) (R : XD → Prop) (h : cT (fun b => encT (B.right b)) ds Q R) : t_Tree_right (conE Q R) (entry 1 ds) := by
  obtain ⟨b, rfl, hb, h64, hn, hq⟩ := h
  cases b with
  | nil => simp at hn
  | node c l r => simpa [t_Tree_right, encT, B.tint, B.left, B.right] using hq
theorem p_str (ds : List D) (Q : D → Prop) (R : XD → Prop) (h : cT (fun b => .v (.str b.line)) ds Q R) : t_Tree_str (conE Q R) (entry 1 ds) := by
  obtain ⟨b, rfl, hb, h64, hn, hq⟩ := h
  cases b with
  | nil => simp at hn
  | node c l r => simpa [t_Tree_str, encT, B.tint, B.left, B.right] using hq
def told (b : B) : Str := (("Tree of " : Str) ++ ((toString (b.size : Int) : String) : Str)) ++ (" nodes" : Str)
theorem int_small : ∀ k : Nat, k ≤ 64 → (((toString (k : Int) : String)) : Str).length ≤ 2 ∧ sml (((toString (k : Int) : String)) : Str) ∧ (k : Int).natAbs.log2 < 1920 := by
  have h : ∀ k : Nat, k < 65 → ((((toString (k : Int) : String)) : Str).length ≤ 2 ∧ ((((toString (k : Int) : String)) : Str).cps.toList.all fun c => decide (c < 128)) = true ∧ (k : Int).natAbs.log2 < 1920) := by decide +kernel
  intro k hk
  obtain ⟨h1, h2, h3⟩ := h k (by omega)
  exact ⟨h1, sml_lit h2, h3⟩
theorem told_len {b : B} (h : b.size ≤ 64) : (told b).length ≤ 20 := by
  have := (int_small b.size h).1
  have e1 : (("Tree of " : String) : Str).length = 8 := by decide +kernel
  have e2 : ((" nodes" : String) : Str).length = 6 := by decide +kernel
  unfold told
  rw [Str_len_append, Str_len_append, e1, e2]; omega
theorem told_sml {b : B} (h : b.size ≤ 64) : sml (told b) :=
  sml_append (sml_append (sml_lit (by decide +kernel)) (int_small b.size h).2.1) (sml_lit (by decide +kernel))
theorem p_repr (ds : List D) (Q : D → Prop) (R : XD → Prop) (h : cT (fun b => .v (.str (told b))) ds Q R) : t_Tree_repr (conE Q R) (entry 1 ds) := by
  obtain ⟨b, rfl, hb, h64, hn, hq⟩ := h
  cases b with
  | nil => simp at hn
  | node c l r =>
    have h1 := int_small _ h64
    have h2 := told_len h64
    unfold told at h2 hq
    rw [Str_len_append, Str_len_append] at h2
    simp [t_Tree_repr, encT, Str.empty_append]
    have a : (Str.ofString ((B.node c l r).size : Int).repr).length ≤ 2 := h1.1
    have e1 : (Str.ofString "Tree of ").length = 8 := by decide +kernel
    have e2 : (Str.ofString " nodes").length = 6 := by decide +kernel
    exact ⟨by rw [szl, e1]; omega, h1.2.2, by rw [szl, e1]; omega, by rw [szl, e1, e2]; omega, hq⟩
def cTint : Con := fun ds Q _ => ∃ c, ds = [.v (.str c)] ∧ let1 c ∧ Q (.v (.bl true))
theorem p_is_tint (ds : List D) (Q : D → Prop) (R : XD → Prop) (h : cTint ds Q R) : t_is_tint (conE Q R) (entry 1 ds) := by
  obtain ⟨c, rfl, hc, hq⟩ := h
  have e : inb (.v (.str c)) (.v (.str (Str.ofString "abcdefghijklmnopqrstuvwxyz"))) = some true := hc.inb
  simp [t_is_tint, tab_str, hc.len, e]
  exact ⟨by rw [szl]; decide, hq⟩
theorem p_side_text (ds : List D) (Q : D → Prop) (R : XD → Prop) (h : cT0 (fun b => .v (.str b.line)) ds Q R) : t_side_text (conE Q R) (entry 1 ds) := by
  obtain ⟨b, rfl, hb, h64, hq⟩ := h
  cases b with
  | nil => simpa [t_side_text, encT, B.line] using hq
  | node c l r => simpa [t_side_text, encT] using hq
theorem p_side_size (ds : List D) (Q : D → Prop) (R : XD → Prop) (h : cT0 (fun b => .v (.int b.size)) ds Q R) : t_side_size (conE Q R) (entry 1 ds) := by
  obtain ⟨b, rfl, hb, h64, hq⟩ := h
  cases b with
  | nil => simpa [t_side_size, encT, B.size] using hq
  | node c l r => simpa [t_side_size, encT] using hq
theorem p_side_levels (ds : List D) (Q : D → Prop) (R : XD → Prop) (h : cT0 (fun b => .v (.int b.depth)) ds Q R) : t_side_levels (conE Q R) (entry 1 ds) := by
  obtain ⟨b, rfl, hb, h64, hq⟩ := h
  cases b with
  | nil => simpa [t_side_levels, encT, B.depth] using hq
  | node c l r => simpa [t_side_levels, encT] using hq
def cRoutes : Con := fun ds Q _ => ∃ (c : Str) (b : B), ds = [.v (.str c), encT b] ∧ b.ok ∧ b.size ≤ 64 ∧ c.length ≤ 4 ∧ Q (.tup (b.routes.map fun x => .v (.str (c ++ x))))
theorem p_side_routes (ds : List D) (Q : D → Prop) (R : XD → Prop) (h : cRoutes ds Q R) : t_side_routes (conE Q R) (entry 3 ds) := by
  obtain ⟨w, b, rfl, hb, h64, hw, hq⟩ := h
  cases b with
  | nil => simpa [t_side_routes, encT, B.routes] using hq
  | node c l r =>
    simp [t_side_routes, encT]
    refine ⟨by simp [Sl.own], ?_⟩
    refine lc_fun (fun d => match d with | .v (.str x) => .v (.str (w ++ x)) | d => d) (fun d => rfl) _ (by rw [List.length_map, routes_len, szl]; omega) (fun d hd k hk => ?_) ?_
    · obtain ⟨x, hx, rfl⟩ := List.mem_map.mp hd
      have := routes_txt _ x hx
      have := depth_le (B.node c l r)
      simp
      exact ⟨by rw [szl]; omega, hk⟩
    · rw [List.map_map]; exact hq
def cInit : ConI := fun ds Q _ => ∃ (c : Str) (l r : B), ds = [.v (.str c), encT l, encT r] ∧ let1 c ∧ l.ok ∧ r.ok ∧ l.size + r.size ≤ 63 ∧ Q tNames [.v (.str c), encT l, encT r, .v (.str (B.node c l r).line), .v (.int (B.node c l r).size), .v (.int (B.node c l r).depth), .tup ((B.node c l r).routes.map fun x => .v (.str x))]
end K01

namespace K01
open PySem L2 DL
theorem seq_i {t u : DST} {De : DEnds} {Γ : DS} (h : t { nx := u De, rt := De.rt, ex := De.ex, bk := De.bk, ct := De.ct } Γ) : dSeq t u De Γ := h
def init2 (c_side_text c_side_size c_side_levels c_side_routes : Con) : DST := (dSeq (dSelf 0 "letter" (dVar 1)) (dSeq (dSelf 0 "first" (dVar 2)) (dSeq (dSelf 0 "second" (dVar 3)) (dSeq (dSet 5 (dAndV (dIsN (dVar 2)) (dIsN (dVar 3)))) (dSeq (dSelf 0 "line" (dIf (dTru (dVar 5)) (dVar 1) (dJoined [(dFmt (dVar 1)), (dC (.str "(")), (dFmt (dCall c_side_text 1 0 [.p 0] (dCons (dVar 2) dNil) dNil)), (dC (.str ",")), (dFmt (dCall c_side_text 1 0 [.p 0] (dCons (dVar 3) dNil) dNil)), (dC (.str ")"))]))) (dSeq (dSelf 0 "nodes" (dOp dAdd (dOp dAdd (dC (.int 1)) (dCall c_side_size 1 0 [.p 0] (dCons (dVar 2) dNil) dNil)) (dCall c_side_size 1 0 [.p 0] (dCons (dVar 3) dNil) dNil))) (dSeq (dSelf 0 "depth" (dOp dAdd (dC (.int 1)) (dCB dMaxL (dCons (dFz (dLst (dCons (dCall c_side_levels 1 0 [.p 0] (dCons (dVar 2) dNil) dNil) (dCons (dCall c_side_levels 1 0 [.p 0] (dCons (dVar 3) dNil) dNil) dNil)))) dNil)))) (dSelf 0 "routes" (dOp dAdd (dOp dAdd (dTup (dCons (dC (.str "")) dNil)) (dCall c_side_routes 2 0 [.p 0, .p 1] (dCons (dC (.str "L")) (dCons (dVar 2) dNil)) dNil)) (dCall c_side_routes 2 0 [.p 0, .p 1] (dCons (dC (.str "R")) (dCons (dVar 3) dNil)) dNil))))))))))
theorem tab_T (b : B) : tab_Tree (encT b) = some (!b.isNil) := by cases b <;> simp [tab_Tree, encT]
theorem init_loop {De : DEnds} {a b c s4 s5 s0 : Sl} (l r : B) (h : De.nx [s0, a, b, c, .d (encT r), s5]) : dForL (dName 4) (dIfS (dAnd (dTest (dNotN (dVar 4))) (dNot (dTru (dIsT tab_Tree (dVar 4))))) dNever dNext) De [encT l, encT r] [s0, a, b, c, s4, s5] := by
  cases h1 : l.isNil <;> cases h2 : r.isNil <;> simpa [tab_T, h1, h2] using h
theorem p_init2 (y dx : Addr) (c : Str) (l r : B) (Q : List Str → List D → Prop) (R : XD → Prop) (hc : let1 c) (hl : l.ok) (hr : r.ok) (hs : l.size + r.size ≤ 63)
    (hq : Q tNames [.v (.str c), encT l, encT r, .v (.str (B.node c l r).line), .v (.int (B.node c l r).size), .v (.int (B.node c l r).depth), .tup ((B.node c l r).routes.map fun x => .v (.str x))]) :
    init2 (cT0 fun b => .v (.str b.line)) (cT0 fun b => .v (.int b.size)) (cT0 fun b => .v (.int b.depth)) cRoutes (conI y dx 0 Q R) [.mo y dx 0 [] [], .d (.v (.str c)), .d (encT l), .d (encT r), .d (encT r), .no] := by
  have ll := line_len hl
  have lr := line_len hr
  have lc := hc.len
  have rl := routes_len l
  have rr := routes_len r
  have ed : ∀ m : Int, m ∈ [(l.depth : Int), (r.depth : Int)] → (∀ z, z ∈ [(l.depth : Int), (r.depth : Int)] → z ≤ m) → (1 : Int) + m = ((B.node c l r).depth : Int) := fun m h1 h2 => by
    have h3 := h2 _ (List.mem_cons_self ..)
    have h4 := h2 _ (List.mem_cons_of_mem _ (List.mem_cons_self ..))
    simp only [B.depth]
    rcases List.mem_cons.mp h1 with rfl | h1
    · omega
    · rcases List.mem_cons.mp h1 with rfl | h1
      · omega
      · cases h1
  have es : (1 : Int) + l.size + r.size = ((B.node c l r).size : Int) := by simp only [B.size]; omega
  have last : (dSelf 0 "routes" (dOp dAdd (dOp dAdd (dTup (dCons (dC (.str "")) dNil)) (dCall cRoutes 2 0 [.p 0, .p 1] (dCons (dC (.str "L")) (dCons (dVar 2) dNil)) dNil)) (dCall cRoutes 2 0 [.p 0, .p 1] (dCons (dC (.str "R")) (dCons (dVar 3) dNil)) dNil))) (conI y dx 0 Q R) (.mo y dx 0 ["letter", "first", "second", "line", "nodes", "depth"] [.v (.str c), encT l, encT r, .v (.str (B.node c l r).line), .v (.int (B.node c l r).size), .v (.int (B.node c l r).depth)] :: [.d (.v (.str c)), .d (encT l), .d (encT r), .d (encT r), .d (.v (.bl (l.isNil && r.isNil)))]) := by
    simp
    refine ⟨by rw [szl]; decide, _, l, rfl, hl, by omega, by rw [l1_len]; decide, ?_⟩
    simp
    refine ⟨by rw [szl]; omega, _, r, rfl, hr, by omega, by rw [r1_len]; decide, ?_⟩
    simp
    refine ⟨by rw [szl]; omega, ?_⟩
    have e : (B.node c l r).routes.map (fun x => D.v (.str x)) = D.v (.str "") :: (l.routes.map (fun x => D.v (.str ("L" ++ x))) ++ r.routes.map (fun x => D.v (.str ("R" ++ x)))) := by simp [B.routes, Function.comp_def]
    rw [e] at hq
    exact hq
  have tail : ∀ w : DST, w (conI y dx 0 Q R) (.mo y dx 0 ["letter", "first", "second", "line", "nodes", "depth"] [.v (.str c), encT l, encT r, .v (.str (B.node c l r).line), .v (.int (B.node c l r).size), .v (.int (B.node c l r).depth)] :: [.d (.v (.str c)), .d (encT l), .d (encT r), .d (encT r), .d (.v (.bl (l.isNil && r.isNil)))]) → (dSeq (dSelf 0 "nodes" (dOp dAdd (dOp dAdd (dC (.int 1)) (dCall (cT0 fun b => .v (.int b.size)) 1 0 [.p 0] (dCons (dVar 2) dNil) dNil)) (dCall (cT0 fun b => .v (.int b.size)) 1 0 [.p 0] (dCons (dVar 3) dNil) dNil))) (dSeq (dSelf 0 "depth" (dOp dAdd (dC (.int 1)) (dCB dMaxL (dCons (dFz (dLst (dCons (dCall (cT0 fun b => .v (.int b.depth)) 1 0 [.p 0] (dCons (dVar 2) dNil) dNil) (dCons (dCall (cT0 fun b => .v (.int b.depth)) 1 0 [.p 0] (dCons (dVar 3) dNil) dNil) dNil)))) dNil)))) w)) (conI y dx 0 Q R) (.mo y dx 0 ["letter", "first", "second", "line"] [.v (.str c), encT l, encT r, .v (.str (B.node c l r).line)] :: [.d (.v (.str c)), .d (encT l), .d (encT r), .d (encT r), .d (.v (.bl (l.isNil && r.isNil)))]) := fun w hw => by
    refine seq_i ?_
    simp [-dSeq]
    refine ⟨l, rfl, hl, by omega, ?_⟩
    simp [-dSeq]
    refine ⟨r, rfl, hr, by omega, ?_⟩
    simp [-dSeq]
    refine seq_i ?_
    rw [es]
    simp [-dSeq]
    refine ⟨l, rfl, hl, by omega, ?_⟩
    refine ⟨r, rfl, hr, by omega, ?_⟩
    simp [-dSeq, intsD]
    refine ⟨by rw [szl]; decide, fun h => ?_, fun h => ?_⟩
    · have e : (1 : Int) + l.depth = ((B.node c l r).depth : Int) := by simp only [B.depth]; omega
      rw [e]; exact hw
    · have e : (1 : Int) + r.depth = ((B.node c l r).depth : Int) := by simp only [B.depth]; omega
      rw [e]; exact hw
  have line : ∀ Qe : D → DS → Prop, Qe (.v (.str (B.node c l r).line)) [.mo y dx 0 ["letter", "first", "second"] [.v (.str c), encT l, encT r], .d (.v (.str c)), .d (encT l), .d (encT r), .d (encT r), .d (.v (.bl (l.isNil && r.isNil)))] → (dIf (dTru (dVar 5)) (dVar 1) (dJoined [(dFmt (dVar 1)), (dC (.str "(")), (dFmt (dCall (cT0 fun b => .v (.str b.line)) 1 0 [.p 0] (dCons (dVar 2) dNil) dNil)), (dC (.str ",")), (dFmt (dCall (cT0 fun b => .v (.str b.line)) 1 0 [.p 0] (dCons (dVar 3) dNil) dNil)), (dC (.str ")"))])) (fun e _ => R e) [.mo y dx 0 ["letter", "first", "second"] [.v (.str c), encT l, encT r], .d (.v (.str c)), .d (encT l), .d (encT r), .d (encT r), .d (.v (.bl (l.isNil && r.isNil)))] Qe := fun Qe h => by
    have main : (l.isNil && r.isNil) = false → (B.node c l r).line = c ++ "(" ++ l.line ++ "," ++ r.line ++ ")" := fun h => line_eq fun z => by rw [z.1, z.2] at h; cases h
    cases h1 : l.isNil <;> cases h2 : r.isNil <;> simp [h1, h2] at h main ⊢
    case true.true =>
      have e := isNil_eq h1; subst e
      have e := isNil_eq h2; subst e
      exact h
    all_goals rw [main] at h
    all_goals refine ⟨by rw [szl]; omega, by rw [szl]; simp [Str.empty, Str.length] at lc ⊢; omega, by rw [szl]; simp [Str.empty, Str.length] at lc ⊢; omega, ?_⟩
    all_goals refine ⟨l, rfl, hl, by omega, ?_⟩
    all_goals simp
    all_goals simp [Str.empty_append]
    all_goals have le : Str.empty.length = 0 := rfl
    all_goals refine ⟨by rw [szl]; omega, by rw [szl, le]; omega, by rw [szl, le]; omega, r, rfl, hr, by omega, ?_⟩
    all_goals simp
    all_goals exact ⟨by rw [szl]; omega, by rw [szl, le]; omega, by rw [szl, le]; omega, h⟩
  unfold init2
  refine seq_i ?_
  simp [-dSeq]
  refine seq_i ?_
  simp [-dSeq]
  refine seq_i ?_
  simp [-dSeq]
  refine seq_i ?_
  have bo : ∀ Qe : D → DS → Prop, ∀ Γ : DS, Γ[2]? = some (.d (encT l)) → Γ[3]? = some (.d (encT r)) → Qe (.v (.bl (l.isNil && r.isNil))) Γ → (dAndV (dIsN (dVar 2)) (dIsN (dVar 3))) (fun e _ => R e) Γ Qe := fun Qe Γ e1 e2 h => by
    cases h1 : l.isNil <;> cases h2 : r.isNil <;> simpa [e1, e2, h1, h2] using h
  refine bo _ _ rfl rfl ?_
  refine seq_i ?_
  refine line _ ?_
  show 3 < 1000 ∧ _
  refine ⟨by decide, ?_⟩
  rw [ixn_line]
  exact tail _ last
theorem p_init (y dx : Addr) (ds : List D) (Q : List Str → List D → Prop) (R : XD → Prop) (h : cInit ds Q R) (hR : ∀ e, ¬ R e) :
    t_Tree_init cTint (cT0 fun b => .v (.str b.line)) (cT0 fun b => .v (.int b.size)) (cT0 fun b => .v (.int b.depth)) cRoutes (conI y dx 0 Q R) (entryI 6 y dx 0 ds) := by
  obtain ⟨c, l, r, rfl, hc, hl, hr, hs, hq⟩ := h
  have e : ∀ (c_is_tint c_side_text c_side_size c_side_levels c_side_routes : Con), t_Tree_init c_is_tint c_side_text c_side_size c_side_levels c_side_routes = (dSeq (dIfS (dNot (dTru (dCall c_is_tint 1 0 [.p 0] (dCons (dVar 1) dNil) dNil))) dNever dNext) (dSeq (dFor (dItT (dTup (dCons (dVar 2) (dCons (dVar 3) dNil)))) (dName 4) (dIfS (dAnd (dTest (dNotN (dVar 4))) (dNot (dTru (dIsT tab_Tree (dVar 4))))) dNever dNext)) (init2 c_side_text c_side_size c_side_levels c_side_routes))) := fun _ _ _ _ _ => rfl
  rw [e]
  have k := p_init2 y dx c l r Q R hc hl hr hs hq
  generalize (init2 (cT0 fun b => .v (.str b.line)) (cT0 fun b => .v (.int b.size)) (cT0 fun b => .v (.int b.depth)) cRoutes) = rest at k ⊢
  refine seq_i ?_
  simp [-dSeq]
  refine ⟨c, rfl, hc, ?_⟩
  simp [-dSeq]
  refine seq_i ?_
  refine ⟨by show 2 ≤ sizeLine; rw [szl]; decide, ?_⟩
  exact init_loop l r k
def cGrown := cB encT
theorem p_grown (n : Nat) (ds : List D) (Q : D → Prop) (R : XD → Prop) (h : cGrown n ds Q R) : t__law_grown cInit (prev cGrown n) (conE Q R) (entry 1 ds) := by
  obtain ⟨b, rfl, hb, hn, h64, hq⟩ := h
  cases b with
  | nil => simpa [t__law_grown, encB, encT] using hq
  | node c l r =>
    simp only [B.size] at hn
    obtain ⟨n, rfl⟩ : ∃ m, n = m + 1 := ⟨n - 1, by omega⟩
    simp [t__law_grown, encB]
    refine ⟨l, rfl, hb.2.1, by omega, by omega, r, rfl, hb.2.2, by omega, by omega, ?_⟩
    simp
    exact ⟨c, l, r, rfl, hb.1, hb.2.1, hb.2.2, by omega, by simpa [encT] using hq⟩
def cNamed : Nat → Con := fun n ds Q _ => ∃ b : B, ds = [encB b] ∧ b.ok ∧ b.isNil = false ∧ b.size ≤ n ∧ n ≤ 64 ∧ Q (encT b)
theorem p_named (n : Nat) (ds : List D) (Q : D → Prop) (R : XD → Prop) (h : cNamed n ds Q R) : t__law_named cInit (prev cNamed n) (conE Q R) (entry 1 ds) := by
  obtain ⟨b, rfl, hb, hnil, hn, h64, hq⟩ := h
  cases b with
  | nil => simp at hnil
  | node c l r =>
    simp only [B.size] at hn
    obtain ⟨n, rfl⟩ : ∃ m, n = m + 1 := ⟨n - 1, by omega⟩
    have fin : ∀ Q' : List Str → List D → Prop, (∀ ns ws, Q' ns ws = Q (.obj 0 ns ws)) → cInit [.v (.str c), encT l, encT r] Q' (fun e => R e) := fun Q' e => ⟨c, l, r, rfl, hb.1, hb.2.1, hb.2.2, by omega, by rw [e]; simpa [encT] using hq⟩
    simp [t__law_named, encB]
    cases h1 : l.isNil <;> cases h2 : r.isNil <;> simp [h1, h2]
    · refine ⟨r, rfl, hb.2.2, h2, by omega, by omega, ?_⟩
      refine ⟨l, rfl, hb.2.1, h1, by omega, by omega, ?_⟩
      exact fin _ fun _ _ => rfl
    · refine ⟨l, rfl, hb.2.1, h1, by omega, by omega, ?_⟩
      have e := isNil_eq h2; subst e
      exact fin _ fun _ _ => rfl
    · refine ⟨r, rfl, hb.2.2, h2, by omega, by omega, ?_⟩
      have e := isNil_eq h1; subst e
      exact fin _ fun _ _ => rfl
    · have e := isNil_eq h1; subst e
      have e := isNil_eq h2; subst e
      exact fin _ fun _ _ => rfl
end K01

namespace K01
open PySem L2 DL
def cBough : Nat → Con := fun n ds Q _ => ∃ (s : Str) (m : Int), ds = [.stk, .v (.str s), .v (.int m)] ∧ cols s ∧ 1 ≤ m ∧ m ≤ n ∧ n ≤ 64 ∧ ∀ b : B, b.ok → b.isNil = false → b.size ≤ m → Q (encB b)
theorem p_bough (n : Nat) (ds : List D) (Q : D → Prop) (R : XD → Prop) (h : cBough n ds Q R) : t__law_bough cPull cPick (prev cBough n) (conE Q R) (entry 6 ds) := by
  obtain ⟨s, m, rfl, hs, m1, mn, h64, hq⟩ := h
  obtain ⟨g1, g2, g3⟩ := cols_signs hs
  have hsl : s.length ≤ sizeLine := by rw [szl]; have := hs.2.1; omega
  have pk : ∀ (Qe : D → Prop) (Re : XD → Prop), (∀ c, let1 c → Qe (.v (.str c))) → cPick [.stk, .lst ((signs s).map fun x => .v (.str x))] Qe Re := fun Qe Re h =>
    ⟨_, _, rfl, .inl rfl, by rw [List.length_map]; omega, by rw [List.length_map]; omega, fun x hx => by
      obtain ⟨c, hc, rfl⟩ := List.mem_map.mp hx
      exact h c (g1 c hc)⟩
  obtain ⟨n, rfl⟩ : ∃ k, n = k + 1 := ⟨n - 1, by omega⟩
  unfold t__law_bough
  refine seq_i ?_
  simp [-dSeq, hsl]
  refine pk _ _ fun c hc => ?_
  have leaf : ∀ c, let1 c → Q (.tup [.v (.str c), .v .non, .v .non]) := fun c hc => hq (.node c .nil .nil) ⟨hc, trivial, trivial⟩ rfl (by simp [B.size]; omega)
  by_cases hm : 1 < m
  · simp [-dSeq, hm]
    refine ⟨6, rfl, by decide, by decide, fun w w0 w6 => ?_⟩
    simp [-dSeq]
    refine seq_i ?_
    simp [-dSeq]
    by_cases h5 : w = 5
    · simp [h5]
      exact ⟨by rw [szl]; decide, leaf c hc⟩
    · simp [-dSeq, h5]
      refine seq_i ?_
      simp [-dSeq]
      by_cases hw0 : w = 0
      · simp [hw0]
        refine ⟨s, m - 1, rfl, hs, by omega, by omega, by omega, fun b hb bn bs => ?_⟩
        exact ⟨by show 3 ≤ sizeLine; rw [szl]; decide, by simpa [encB] using hq (.node c b .nil) ⟨hc, hb, trivial⟩ rfl (by simp [B.size]; omega)⟩
      · simp [-dSeq, hw0]
        refine seq_i ?_
        simp [-dSeq]
        by_cases hw1 : w = 1
        · simp [hw1]
          refine ⟨s, m - 1, rfl, hs, by omega, by omega, by omega, fun b hb bn bs => ?_⟩
          exact ⟨by show 3 ≤ sizeLine; rw [szl]; decide, by simpa [encB] using hq (.node c .nil b) ⟨hc, trivial, hb⟩ rfl (by simp [B.size]; omega)⟩
        · simp [-dSeq, hw1]
          refine seq_i ?_
          simp [-dSeq]
          by_cases hm2 : m = 2
          · subst hm2
            simp [hsl]
            refine pk _ _ fun c' hc' => ?_
            exact ⟨by rw [szl]; decide, by simpa [encB] using hq (.node c (.node c' .nil .nil) .nil) ⟨hc, ⟨hc', trivial, trivial⟩, trivial⟩ rfl (by simp [B.size])⟩
          · simp [hm2]
            refine ⟨m - 2, rfl, by omega, by omega, fun r r0 r1 => ?_⟩
            simp
            refine ⟨s, 1 + r, rfl, hs, by omega, by omega, by omega, fun b hb bn bs => ?_⟩
            refine ⟨s, m - 1 - (1 + r), rfl, hs, by omega, by omega, by omega, fun b' hb' bn' bs' => ?_⟩
            exact ⟨by show 3 ≤ sizeLine; rw [szl]; decide, by simpa [encB] using hq (.node c b b') ⟨hc, hb, hb'⟩ rfl (by simp [B.size]; omega)⟩
  · simp [hm]
    exact ⟨by rw [szl]; decide, leaf c hc⟩
def cIs : Nat → Con := fun n ds Q _ => ∃ b : B, ds = [encT b, encB b] ∧ b.ok ∧ b.size ≤ n ∧ n ≤ 64 ∧ Q (.v (.bl true))
def cRight : Con := fun ds Q _ => ds = [.stk] ∧ Q (.v (.bl true))
theorem q_right (ds : List D) (Q : D → Prop) (R : XD → Prop) (h : cRight ds Q R) : t__law_right cCol cPull (cBough 40) (cIs 40) (cNamed 40) (cGrown 40) (conE Q R) (entry 3 ds) := by
  obtain ⟨rfl, hq⟩ := h
  unfold t__law_right
  refine seq_i ?_
  simp [-dSeq]
  refine ⟨3, rfl, by decide, by decide, fun r r0 r3 => ?_⟩
  simp [-dSeq]
  refine ⟨1 + r, rfl, by omega, by omega, fun s hs => ?_⟩
  refine seq_i ?_
  simp [-dSeq]
  refine ⟨40, rfl, by decide, by decide, fun r r0 r3 => ?_⟩
  simp [-dSeq]
  refine ⟨s, 1 + r, rfl, hs, by omega, by omega, by omega, fun b hb bn bs => ?_⟩
  simp
  refine ⟨b, rfl, hb, by omega, by omega, ?_⟩
  refine ⟨b, rfl, hb, by omega, by omega, ?_⟩
  simp
  refine ⟨b, rfl, hb, bn, by omega, by omega, ?_⟩
  exact ⟨b, rfl, hb, by omega, by omega, hq⟩
theorem p_law (ds : List D) (Q : D → Prop) (R : XD → Prop) (h : cLaw 63 ds Q R) : t_law cRight cStock (conE Q R) (entry 2 ds) := by
  obtain ⟨ns, rfl, hl, hq⟩ := h
  simp [t_law]
  refine ⟨by split <;> split <;> omega, by split <;> split <;> omega, by simp [Sl.own], ?_⟩
  refine lc_fun (fun _ => .v (.bl true)) (fun d => rfl) _ (by rw [rngD_len, szl]; split <;> split <;> omega) (fun d hd k hk => ?_) ?_
  · obtain ⟨i, rfl, i0, i1⟩ := rngD_mem hd
    simp
    refine ⟨ns, i, rfl, i0, ?_, hl, ?_⟩
    · revert i1; split <;> split <;> omega
    · exact ⟨rfl, hk⟩
  · have : ∀ xs : List D, ∃ bs : List Bool, xs.map (fun _ => D.v (.bl true)) = bs.map (fun x => D.v (.bl x)) ∧ bs.all _root_.id = true := fun xs => ⟨xs.map fun _ => true, by simp [Function.comp_def], by simp⟩
    obtain ⟨bs, e1, e2⟩ := this _
    rw [e1, blsD_bls]
    show Q (D.v (V.bl (bs.all _root_.id)))
    rw [e2]
    exact hq
end K01

namespace K01
open PySem L2 DL
theorem py_strs : ∀ xs : List Str, py.pyA (xs.map fun x => D.v (.str x)) = some (xs.map .str)
  | [] => rfl
  | x :: xs => by simp [py.pyA, py, py_strs xs]
theorem wtA_strs (B : Nat) : ∀ xs : List Str, (∀ x ∈ xs, x.length ≤ B) → wtA (xs.map .str) ≤ xs.length * (10 * B + 4)
  | [], _ => by simp [wtA]
  | x :: xs, h => by
    have h1 := h x (List.mem_cons_self ..)
    have h2 := wtA_strs B xs fun y hy => h y (List.mem_cons_of_mem _ hy)
    have h3 : (xs.length + 1) * (10 * B + 4) = xs.length * (10 * B + 4) + (10 * B + 4) := Nat.succ_mul _ _
    rw [List.map_cons, List.length_cons, h3]
    simp only [wtA, wt]
    omega
theorem smlA_strs : ∀ xs : List Str, (∀ x ∈ xs, sml x) → smlA (xs.map .str)
  | [], _ => trivial
  | x :: xs, h => by
    simp only [List.map_cons, smlA, smlP]
    exact ⟨h x (List.mem_cons_self ..), smlA_strs xs fun y hy => h y (List.mem_cons_of_mem _ hy)⟩
theorem depthA_strs : ∀ xs : List Str, PyData.depthAll (xs.map .str) = 0
  | [] => by simp [PyData.depthAll]
  | x :: xs => by simp [PyData.depthAll, PyData.depth, depthA_strs xs]
def toldP (c : Str) (b : B) : PyData := .list [.str c, .int b.size, .int b.depth, .tuple (b.routes.map .str), .str b.line, .str (told b)]
def toldD (c : Str) (b : B) : D := .lst [.v (.str c), .v (.int b.size), .v (.int b.depth), .tup (b.routes.map fun x => .v (.str x)), .v (.str b.line), .v (.str (told b))]
theorem told_py (c : Str) (b : B) : py (toldD c b) = some (toldP c b) := by
  simp [toldD, toldP, py, py.pyA, py_strs]
theorem told_ok {c : Str} {l r : B} (hb : (B.node c l r).ok) (h64 : (B.node c l r).size ≤ 64) : (toldP c (.node c l r)).showable = true ∧ (toldP c (.node c l r)).shown.length ≤ sizeLine ∧ (toldP c (.node c l r)).depth ≤ 60 := by
  have hd := depth_le (B.node c l r)
  have h1 := routes_txt (B.node c l r)
  have h2 := routes_len (B.node c l r)
  have h3 := line_len hb
  have h4 := told_len h64
  have i1 := int_small _ h64
  have i2 := int_small (B.node c l r).depth (by omega)
  have hw := wtA_strs 64 (B.node c l r).routes fun x hx => by have := (h1 x hx).1; omega
  have hs : smlP (toldP c (.node c l r)) := by
    simp only [toldP, smlP, smlA]
    exact ⟨hb.1.sml, i1.2.2, i2.2.2, smlA_strs _ fun x hx => (h1 x hx).2, line_sml hb, told_sml h64, trivial⟩
  obtain ⟨s1, s2⟩ := shown_le _ hs
  refine ⟨s2, Nat.le_trans s1 ?_, ?_⟩
  · have hc := hb.1.len
    simp only [toldP, wt, wtA]
    have a1 := i1.1
    have a2 := i2.1
    rw [h2] at hw
    have hw' : (B.node c l r).size * (10 * 64 + 4) ≤ 64 * (10 * 64 + 4) := Nat.mul_le_mul_right _ h64
    rw [szl]; omega
  · simp only [toldP, PyData.depth, PyData.depthAll, depthA_strs]; decide
theorem repr_told {c : Str} {l r : B} (hb : (B.node c l r).ok) (h64 : (B.node c l r).size ≤ 64) (Q : D → Prop) (h : Q (.v (.str (toldP c (.node c l r)).shown))) : dRepr [toldD c (.node c l r)] Q := by
  have e := told_py c (.node c l r)
  have ok := told_ok hb h64
  show (match py (toldD c (.node c l r)) with | some p => (p.showable = true ∧ p.shown.length ≤ sizeLine ∧ p.depth ≤ 60) ∧ Q (.v (.str p.shown)) | none => False)
  rw [e]
  exact ⟨ok, h⟩
theorem tabT {b : B} : tab_Tree (encT b) = some (!b.isNil) := tab_T b
abbrev isBody (n : Nat) : DST := t__law_is (cShape 64) (cT fun b => .v (.str (told b))) (cT fun b => .v (.str b.line)) (cT fun b => .tup (b.routes.map fun x => .v (.str x))) (cT fun b => .v (.int b.depth)) (cT fun b => .v (.int b.size)) (cT fun b => .v (.str (B.tint b))) (cLine 64) (cSpots 64) (prev cIs n) (cT fun b => encT (B.right b)) (cT fun b => encT (B.left b))
theorem p_is (n : Nat) (ds : List D) (Q : D → Prop) (R : XD → Prop) (h : cIs n ds Q R) : isBody n (conE Q R) (entry 6 ds) := by
  obtain ⟨b, rfl, hb, hn, h64, hq⟩ := h
  cases b with
  | nil => simpa [t__law_is, encB, encT] using hq
  | node c l r =>
    have hb64 : (B.node c l r).size ≤ 64 := by omega
    have hs : 1 + l.size + r.size ≤ n := hn
    obtain ⟨n, rfl⟩ : ∃ m, n = m + 1 := ⟨n - 1, by omega⟩
    unfold isBody t__law_is
    refine seq_i ?_
    simp [-dSeq]
    refine seq_i ?_
    simp [-dSeq]
    refine ⟨_, rfl, hb, hb64, by decide, ?_⟩
    simp [-dSeq]
    refine seq_i ?_
    have e : encT (.node c l r) = .obj 0 tNames [.v (.str c), encT l, encT r, .v (.str (B.node c l r).line), .v (.int (B.node c l r).size), .v (.int (B.node c l r).depth), .tup ((B.node c l r).routes.map fun x => .v (.str x))] := rfl
    simp [-dSeq, e]
    refine ⟨.node c l r, rfl, hb, hb64, rfl, ?_⟩
    refine ⟨.node c l r, rfl, hb, hb64, rfl, ?_⟩
    refine ⟨.node c l r, rfl, hb, hb64, rfl, ?_⟩
    refine ⟨.node c l r, rfl, hb, hb64, rfl, ?_⟩
    refine ⟨.node c l r, rfl, hb, hb64, rfl, ?_⟩
    simp [-dSeq]
    refine ⟨.node c l r, rfl, hb, hb64, rfl, ?_⟩
    simp [-dSeq]
    refine ⟨by rw [szl]; decide, ?_⟩
    refine seq_i ?_
    have eB : encB (.node c l r) = .tup [.v (.str c), encB l, encB r] := rfl
    simp [-dSeq, eB]
    refine ⟨.node c l r, "", rfl, hb, hb64, by decide, by rw [e_len]; omega, ?_⟩
    simp [-dSeq]
    refine ⟨.node c l r, rfl, hb, hb64, by decide, ?_⟩
    simp [-dSeq, spots_e]
    refine ⟨by rw [szl]; decide, ?_⟩
    refine seq_i ?_
    simp [-dSeq, -dRepr]
    refine repr_told hb hb64 _ ?_
    try simp [-dSeq, -dRepr]
    have i1 := int_small _ hb64
    have a : (Str.ofString ((B.node c l r).size : Int).repr).length ≤ 2 := i1.1
    have e1 : (Str.ofString "Tree of ").length = 8 := by decide +kernel
    have e2 : (Str.ofString " nodes").length = 6 := by decide +kernel
    refine ⟨i1.2.2, by rw [szl, e1]; omega, by rw [szl, e1, e2]; omega, by rw [szl]; decide, by rw [szl]; decide, repr_told hb hb64 _ ?_⟩
    have et := tab_T (.node c l r)
    rw [e] at et
    simp [et]
    refine ⟨.node c l r, rfl, hb, hb64, rfl, ?_⟩
    refine ⟨l, rfl, hb.2.1, by omega, by omega, ?_⟩
    refine ⟨.node c l r, rfl, hb, hb64, rfl, ?_⟩
    exact ⟨r, rfl, hb.2.2, by omega, by omega, hq⟩
end K01

namespace K01
open PySem L2 DL PySem.Calls

def top (i : Nat) : Stmt := PySem.Challenge.pw_pilewalks_k01_trees_are_made.main.body.getD i (.Pass ⟨0, 0, 0, 0⟩)
abbrev s__law_pull : Stmt := top 20
abbrev s__law_colours : Stmt := top 21
abbrev s__law_pick : Stmt := top 22
abbrev s__law_bough : Stmt := top 23
abbrev s__law_shape : Stmt := top 27
abbrev s_Tree_repr : Stmt := inClass (top 14) 11
abbrev s_Tree_str : Stmt := inClass (top 14) 10
abbrev s_Tree_paths : Stmt := inClass (top 14) 7
abbrev s_Tree_levels : Stmt := inClass (top 14) 6
abbrev s_Tree_size : Stmt := inClass (top 14) 5
abbrev s_Tree_tint : Stmt := inClass (top 14) 2
abbrev s__law_line : Stmt := top 24
abbrev s__law_spots : Stmt := top 25
abbrev s_Tree_right : Stmt := inClass (top 14) 4
abbrev s_Tree_left : Stmt := inClass (top 14) 3
abbrev s__law_is : Stmt := top 28
abbrev s_is_tint : Stmt := top 8
abbrev s_side_text : Stmt := top 10
abbrev s_side_size : Stmt := top 11
abbrev s_side_levels : Stmt := top 12
abbrev s_side_routes : Stmt := top 13
abbrev s_Tree_init : Stmt := inClass (top 14) 0
abbrev s__law_named : Stmt := top 29
abbrev s__law_grown : Stmt := top 26
abbrev s__law_right : Stmt := top 30
abbrev s__law_stock : Stmt := top 19
abbrev s_law : Stmt := top 31
theorem sc__law_pull : FnScope ["_law_stock_here", "_law_top", "_law_digit"] ["_law_stock_here", "_law_top"] (defScope s__law_pull) := ⟨rfl, rfl, rfl, by decide +kernel, rfl, by decide +kernel, by decide +kernel⟩
theorem sc__law_colours : FnScope ["_law_stock_here", "_law_size", "_law_begin", "_law_pace", "_law_k"] ["_law_stock_here", "_law_size"] (defScope s__law_colours) := ⟨rfl, rfl, rfl, by decide +kernel, rfl, by decide +kernel, by decide +kernel⟩
theorem sc__law_pick : FnScope ["_law_stock_here", "_law_menu"] ["_law_stock_here", "_law_menu"] (defScope s__law_pick) := ⟨rfl, rfl, rfl, by decide +kernel, rfl, by decide +kernel, by decide +kernel⟩
theorem sc__law_bough : FnScope ["_law_stock_here", "_law_colours_here", "_law_room", "_law_half", "_law_shade", "_law_way"] ["_law_stock_here", "_law_colours_here", "_law_room"] (defScope s__law_bough) := ⟨rfl, rfl, rfl, by decide +kernel, rfl, by decide +kernel, by decide +kernel⟩
theorem sc__law_shape : FnScope ["_law_bough_here", "_law_low", "_law_high"] ["_law_bough_here"] (defScope s__law_shape) := ⟨rfl, rfl, rfl, by decide +kernel, rfl, by decide +kernel, by decide +kernel⟩
theorem sc_Tree_repr : FnScope ["self"] ["self"] (defScope s_Tree_repr) := ⟨rfl, rfl, rfl, by decide +kernel, rfl, by decide +kernel, by decide +kernel⟩
theorem sc_Tree_str : FnScope ["self"] ["self"] (defScope s_Tree_str) := ⟨rfl, rfl, rfl, by decide +kernel, rfl, by decide +kernel, by decide +kernel⟩
theorem sc_Tree_paths : FnScope ["self"] ["self"] (defScope s_Tree_paths) := ⟨rfl, rfl, rfl, by decide +kernel, rfl, by decide +kernel, by decide +kernel⟩
theorem sc_Tree_levels : FnScope ["self"] ["self"] (defScope s_Tree_levels) := ⟨rfl, rfl, rfl, by decide +kernel, rfl, by decide +kernel, by decide +kernel⟩
theorem sc_Tree_size : FnScope ["self"] ["self"] (defScope s_Tree_size) := ⟨rfl, rfl, rfl, by decide +kernel, rfl, by decide +kernel, by decide +kernel⟩
theorem sc_Tree_tint : FnScope ["self"] ["self"] (defScope s_Tree_tint) := ⟨rfl, rfl, rfl, by decide +kernel, rfl, by decide +kernel, by decide +kernel⟩
theorem sc__law_line : FnScope ["_law_bough_here"] ["_law_bough_here"] (defScope s__law_line) := ⟨rfl, rfl, rfl, by decide +kernel, rfl, by decide +kernel, by decide +kernel⟩
theorem sc__law_spots : FnScope ["_law_bough_here", "_law_way_down"] ["_law_bough_here", "_law_way_down"] (defScope s__law_spots) := ⟨rfl, rfl, rfl, by decide +kernel, rfl, by decide +kernel, by decide +kernel⟩
theorem sc_Tree_right : FnScope ["self"] ["self"] (defScope s_Tree_right) := ⟨rfl, rfl, rfl, by decide +kernel, rfl, by decide +kernel, by decide +kernel⟩
theorem sc_Tree_left : FnScope ["self"] ["self"] (defScope s_Tree_left) := ⟨rfl, rfl, rfl, by decide +kernel, rfl, by decide +kernel, by decide +kernel⟩
theorem sc__law_is : FnScope ["_law_mine", "_law_bough_here", "_law_told", "_law_due", "_law_size", "_law_depth"] ["_law_mine", "_law_bough_here"] (defScope s__law_is) := ⟨rfl, rfl, rfl, by decide +kernel, rfl, by decide +kernel, by decide +kernel⟩
theorem sc_is_tint : FnScope ["value"] ["value"] (defScope s_is_tint) := ⟨rfl, rfl, rfl, by decide +kernel, rfl, by decide +kernel, by decide +kernel⟩
theorem sc_side_text : FnScope ["side"] ["side"] (defScope s_side_text) := ⟨rfl, rfl, rfl, by decide +kernel, rfl, by decide +kernel, by decide +kernel⟩
theorem sc_side_size : FnScope ["side"] ["side"] (defScope s_side_size) := ⟨rfl, rfl, rfl, by decide +kernel, rfl, by decide +kernel, by decide +kernel⟩
theorem sc_side_levels : FnScope ["side"] ["side"] (defScope s_side_levels) := ⟨rfl, rfl, rfl, by decide +kernel, rfl, by decide +kernel, by decide +kernel⟩
theorem sc_side_routes : FnScope ["letter", "side", "path"] ["letter", "side"] (defScope s_side_routes) := ⟨rfl, rfl, rfl, by decide +kernel, rfl, by decide +kernel, by decide +kernel⟩
theorem sc_Tree_init : FnScope ["self", "tint", "left", "right", "side", "is_leaf"] ["self", "tint", "left", "right"] (defScope s_Tree_init) := ⟨rfl, rfl, rfl, by decide +kernel, rfl, by decide +kernel, by decide +kernel⟩
theorem sc__law_named : FnScope ["_law_bough_here"] ["_law_bough_here"] (defScope s__law_named) := ⟨rfl, rfl, rfl, by decide +kernel, rfl, by decide +kernel, by decide +kernel⟩
theorem sc__law_grown : FnScope ["_law_bough_here"] ["_law_bough_here"] (defScope s__law_grown) := ⟨rfl, rfl, rfl, by decide +kernel, rfl, by decide +kernel, by decide +kernel⟩
theorem sc__law_right : FnScope ["_law_stock_here", "_law_colours_here", "_law_bough_here"] ["_law_stock_here"] (defScope s__law_right) := ⟨rfl, rfl, rfl, by decide +kernel, rfl, by decide +kernel, by decide +kernel⟩
theorem sc__law_stock : FnScope ["_law_cells", "_law_turn", "_law_cell", "_law_stir", "_law_each"] ["_law_cells", "_law_turn"] (defScope s__law_stock) := ⟨rfl, rfl, rfl, by decide +kernel, rfl, by decide +kernel, by decide +kernel⟩
theorem sc_law : FnScope ["_law_cells", "_law_turn"] ["_law_cells"] (defScope s_law) := ⟨rfl, rfl, rfl, by decide +kernel, rfl, by decide +kernel, by decide +kernel⟩
structure Txt (K : PySem.W.Frag) (mg : Str → Option Value) where
  cl : Nat → Addr
  cls : ∀ c, IsiC K (cl c)
  a__law_pull : Addr
  d__law_pull : FuncData
  a__law_colours : Addr
  d__law_colours : FuncData
  a__law_pick : Addr
  d__law_pick : FuncData
  a__law_bough : Addr
  d__law_bough : FuncData
  a__law_shape : Addr
  d__law_shape : FuncData
  a_Tree_repr : Addr
  d_Tree_repr : FuncData
  a_Tree_str : Addr
  d_Tree_str : FuncData
  a_Tree_paths : Addr
  d_Tree_paths : FuncData
  a_Tree_levels : Addr
  d_Tree_levels : FuncData
  a_Tree_size : Addr
  d_Tree_size : FuncData
  a_Tree_tint : Addr
  d_Tree_tint : FuncData
  a__law_line : Addr
  d__law_line : FuncData
  a__law_spots : Addr
  d__law_spots : FuncData
  a_Tree_right : Addr
  d_Tree_right : FuncData
  a_Tree_left : Addr
  d_Tree_left : FuncData
  a__law_is : Addr
  d__law_is : FuncData
  a_is_tint : Addr
  d_is_tint : FuncData
  a_side_text : Addr
  d_side_text : FuncData
  a_side_size : Addr
  d_side_size : FuncData
  a_side_levels : Addr
  d_side_levels : FuncData
  a_side_routes : Addr
  d_side_routes : FuncData
  a_Tree_init : Addr
  d_Tree_init : FuncData
  a__law_named : Addr
  d__law_named : FuncData
  a__law_grown : Addr
  d__law_grown : FuncData
  a__law_right : Addr
  d__law_right : FuncData
  a__law_stock : Addr
  d__law_stock : FuncData
  a_law : Addr
  d_law : FuncData
  x__law_pull : FunX K "_law_pull" "_law_pull" s__law_pull a__law_pull d__law_pull
  m__law_pull : mg "_law_pull" = some (.ref a__law_pull)
  k__law_pull : PySem.W.keepIn K (.ref a__law_pull) = true
  x__law_colours : FunX K "_law_colours" "_law_colours" s__law_colours a__law_colours d__law_colours
  m__law_colours : mg "_law_colours" = some (.ref a__law_colours)
  k__law_colours : PySem.W.keepIn K (.ref a__law_colours) = true
  x__law_pick : FunX K "_law_pick" "_law_pick" s__law_pick a__law_pick d__law_pick
  m__law_pick : mg "_law_pick" = some (.ref a__law_pick)
  k__law_pick : PySem.W.keepIn K (.ref a__law_pick) = true
  x__law_bough : FunX K "_law_bough" "_law_bough" s__law_bough a__law_bough d__law_bough
  m__law_bough : mg "_law_bough" = some (.ref a__law_bough)
  k__law_bough : PySem.W.keepIn K (.ref a__law_bough) = true
  x__law_shape : FunX K "_law_shape" "_law_shape" s__law_shape a__law_shape d__law_shape
  m__law_shape : mg "_law_shape" = some (.ref a__law_shape)
  k__law_shape : PySem.W.keepIn K (.ref a__law_shape) = true
  x_Tree_repr : FunX K "__repr__" "Tree.__repr__" s_Tree_repr a_Tree_repr d_Tree_repr
  x_Tree_str : FunX K "__str__" "Tree.__str__" s_Tree_str a_Tree_str d_Tree_str
  x_Tree_paths : FunX K "paths" "Tree.paths" s_Tree_paths a_Tree_paths d_Tree_paths
  x_Tree_levels : FunX K "levels" "Tree.levels" s_Tree_levels a_Tree_levels d_Tree_levels
  x_Tree_size : FunX K "size" "Tree.size" s_Tree_size a_Tree_size d_Tree_size
  x_Tree_tint : FunX K "tint" "Tree.tint" s_Tree_tint a_Tree_tint d_Tree_tint
  x__law_line : FunX K "_law_line" "_law_line" s__law_line a__law_line d__law_line
  m__law_line : mg "_law_line" = some (.ref a__law_line)
  k__law_line : PySem.W.keepIn K (.ref a__law_line) = true
  x__law_spots : FunX K "_law_spots" "_law_spots" s__law_spots a__law_spots d__law_spots
  m__law_spots : mg "_law_spots" = some (.ref a__law_spots)
  k__law_spots : PySem.W.keepIn K (.ref a__law_spots) = true
  x_Tree_right : FunX K "right" "Tree.right" s_Tree_right a_Tree_right d_Tree_right
  x_Tree_left : FunX K "left" "Tree.left" s_Tree_left a_Tree_left d_Tree_left
  x__law_is : FunX K "_law_is" "_law_is" s__law_is a__law_is d__law_is
  m__law_is : mg "_law_is" = some (.ref a__law_is)
  k__law_is : PySem.W.keepIn K (.ref a__law_is) = true
  x_is_tint : FunX K "is_tint" "is_tint" s_is_tint a_is_tint d_is_tint
  m_is_tint : mg "is_tint" = some (.ref a_is_tint)
  k_is_tint : PySem.W.keepIn K (.ref a_is_tint) = true
  x_side_text : FunX K "side_text" "side_text" s_side_text a_side_text d_side_text
  m_side_text : mg "side_text" = some (.ref a_side_text)
  k_side_text : PySem.W.keepIn K (.ref a_side_text) = true
  x_side_size : FunX K "side_size" "side_size" s_side_size a_side_size d_side_size
  m_side_size : mg "side_size" = some (.ref a_side_size)
  k_side_size : PySem.W.keepIn K (.ref a_side_size) = true
  x_side_levels : FunX K "side_levels" "side_levels" s_side_levels a_side_levels d_side_levels
  m_side_levels : mg "side_levels" = some (.ref a_side_levels)
  k_side_levels : PySem.W.keepIn K (.ref a_side_levels) = true
  x_side_routes : FunX K "side_routes" "side_routes" s_side_routes a_side_routes d_side_routes
  m_side_routes : mg "side_routes" = some (.ref a_side_routes)
  k_side_routes : PySem.W.keepIn K (.ref a_side_routes) = true
  x_Tree_init : FunX K "__init__" "Tree.__init__" s_Tree_init a_Tree_init d_Tree_init
  x__law_named : FunX K "_law_named" "_law_named" s__law_named a__law_named d__law_named
  m__law_named : mg "_law_named" = some (.ref a__law_named)
  k__law_named : PySem.W.keepIn K (.ref a__law_named) = true
  x__law_grown : FunX K "_law_grown" "_law_grown" s__law_grown a__law_grown d__law_grown
  m__law_grown : mg "_law_grown" = some (.ref a__law_grown)
  k__law_grown : PySem.W.keepIn K (.ref a__law_grown) = true
  x__law_right : FunX K "_law_right" "_law_right" s__law_right a__law_right d__law_right
  m__law_right : mg "_law_right" = some (.ref a__law_right)
  k__law_right : PySem.W.keepIn K (.ref a__law_right) = true
  x__law_stock : FunX K "_law_stock" "_law_stock" s__law_stock a__law_stock d__law_stock
  m__law_stock : mg "_law_stock" = some (.ref a__law_stock)
  k__law_stock : PySem.W.keepIn K (.ref a__law_stock) = true
  x_law : FunX K "law" "law" s_law a_law d_law
  m_law : mg "law" = some (.ref a_law)
  k_law : PySem.W.keepIn K (.ref a_law) = true
  b_Tree_init_0_right_left_tint : Bnd K d_Tree_init ["self", "tint", "left", "right"] 1 0 ["right", "left", "tint"] [.k 2, .k 1, .k 0]
  b_Tree_init_0_tint : Bnd K d_Tree_init ["self", "tint", "left", "right"] 1 0 ["tint"] [.k 0, .n, .n]
  b_Tree_init_1_right : Bnd K d_Tree_init ["self", "tint", "left", "right"] 1 1 ["right"] [.p 0, .n, .k 0]
  b_Tree_init_2 : Bnd K d_Tree_init ["self", "tint", "left", "right"] 1 2 [] [.p 0, .p 1, .n]
  b_Tree_init_3 : Bnd K d_Tree_init ["self", "tint", "left", "right"] 1 3 [] [.p 0, .p 1, .p 2]
  b_Tree_left_0 : Bnd K d_Tree_left ["self"] 1 0 [] []
  b_Tree_levels_0 : Bnd K d_Tree_levels ["self"] 1 0 [] []
  b_Tree_paths_0 : Bnd K d_Tree_paths ["self"] 1 0 [] []
  b_Tree_repr_0 : Bnd K d_Tree_repr ["self"] 1 0 [] []
  b_Tree_right_0 : Bnd K d_Tree_right ["self"] 1 0 [] []
  b_Tree_size_0 : Bnd K d_Tree_size ["self"] 1 0 [] []
  b_Tree_str_0 : Bnd K d_Tree_str ["self"] 1 0 [] []
  b_Tree_tint_0 : Bnd K d_Tree_tint ["self"] 1 0 [] []
  b__law_bough_3 : Bnd K d__law_bough ["_law_stock_here", "_law_colours_here", "_law_room"] 0 3 [] [.p 0, .p 1, .p 2]
  b__law_colours_2 : Bnd K d__law_colours ["_law_stock_here", "_law_size"] 0 2 [] [.p 0, .p 1]
  b__law_grown_1 : Bnd K d__law_grown ["_law_bough_here"] 0 1 [] [.p 0]
  b__law_is_2 : Bnd K d__law_is ["_law_mine", "_law_bough_here"] 0 2 [] [.p 0, .p 1]
  b__law_line_1 : Bnd K d__law_line ["_law_bough_here"] 0 1 [] [.p 0]
  b__law_named_1 : Bnd K d__law_named ["_law_bough_here"] 0 1 [] [.p 0]
  b__law_pick_2 : Bnd K d__law_pick ["_law_stock_here", "_law_menu"] 0 2 [] [.p 0, .p 1]
  b__law_pull_2 : Bnd K d__law_pull ["_law_stock_here", "_law_top"] 0 2 [] [.p 0, .p 1]
  b__law_right_1 : Bnd K d__law_right ["_law_stock_here"] 0 1 [] [.p 0]
  b__law_shape_1 : Bnd K d__law_shape ["_law_bough_here"] 0 1 [] [.p 0]
  b__law_spots_2 : Bnd K d__law_spots ["_law_bough_here", "_law_way_down"] 0 2 [] [.p 0, .p 1]
  b__law_stock_2 : Bnd K d__law_stock ["_law_cells", "_law_turn"] 0 2 [] [.p 0, .p 1]
  b_is_tint_1 : Bnd K d_is_tint ["value"] 0 1 [] [.p 0]
  b_side_levels_1 : Bnd K d_side_levels ["side"] 0 1 [] [.p 0]
  b_side_routes_2 : Bnd K d_side_routes ["letter", "side"] 0 2 [] [.p 0, .p 1]
  b_side_size_1 : Bnd K d_side_size ["side"] 0 1 [] [.p 0]
  b_side_text_1 : Bnd K d_side_text ["side"] 0 1 [] [.p 0]
  m_Tree : mg "Tree" = some (.ref (cl 0))
  k_Tree : Mk K (cl 0) a_Tree_init
  g_LETTERS : ∃ u, mg "LETTERS" = some u ∧ RelV (.str "abcdefghijklmnopqrstuvwxyz") u
  it_Tree : IsTab K cl (.ref (cl 0)) (.ref (cl 0)) tab_Tree
  it_str : IsTab K cl (.ty "str") (.type "str") tab_str
  n_depth : ∀ c, NoAttr K (cl c) "depth"
  n_first : ∀ c, NoAttr K (cl c) "first"
  n_letter : ∀ c, NoAttr K (cl c) "letter"
  n_line : ∀ c, NoAttr K (cl c) "line"
  n_nodes : ∀ c, NoAttr K (cl c) "nodes"
  n_routes : ∀ c, NoAttr K (cl c) "routes"
  n_second : ∀ c, NoAttr K (cl c) "second"
  o_Tree_repr : PySem.W.findIn K (.ref (cl 0)) "__repr__" = some (some (.ref a_Tree_repr))
  of_Tree_repr : PySem.W.isFn K (.ref a_Tree_repr) = true
  o_Tree_str : PySem.W.findIn K (.ref (cl 0)) "__str__" = some (some (.ref a_Tree_str))
  of_Tree_str : PySem.W.isFn K (.ref a_Tree_str) = true
  pp_left : Addr
  p_left : PropOf K (cl 0) "left" pp_left a_Tree_left
  pp_levels : Addr
  p_levels : PropOf K (cl 0) "levels" pp_levels a_Tree_levels
  pp_paths : Addr
  p_paths : PropOf K (cl 0) "paths" pp_paths a_Tree_paths
  pp_right : Addr
  p_right : PropOf K (cl 0) "right" pp_right a_Tree_right
  pp_size : Addr
  p_size : PropOf K (cl 0) "size" pp_size a_Tree_size
  pp_tint : Addr
  p_tint : PropOf K (cl 0) "tint" pp_tint a_Tree_tint
  z_abs : mg "abs" = none
  z_all : mg "all" = none
  z_divmod : mg "divmod" = none
  z_int : mg "int" = none
  z_isinstance : mg "isinstance" = none
  z_len : mg "len" = none
  z_list : mg "list" = none
  z_max : mg "max" = none
  z_min : mg "min" = none
  z_range : mg "range" = none
  z_repr : mg "repr" = none
  z_str : mg "str" = none
  z_tuple : mg "tuple" = none
section
variable {P : Program} {w : World} {K : PySem.W.Frag} {mg : Str → Option Value} {base : Heap}
theorem w__law_pull (T : Txt K mg) {k : Nat} {C : Con}
    (hl : ∀ ds Q R, C ds Q R → ds.length = 2) (hC : ∀ ds Q R, C ds Q R → t__law_pull (conE Q R) (entry 3 ds)) :
    FnG P w K mg base (k + 1) T.a__law_pull T.d__law_pull ["_law_stock_here", "_law_top"] (spD K T.cl C) := by
  refine okD T.x__law_pull sc__law_pull (by decide) hl fun cdv A outer s H E Ex hK hcl hG hr => ?_
  obtain ⟨K', cl', P0, H0, io⟩ := E
  obtain rfl : K' = K := hK
  obtain rfl : cl' = T.cl := hcl
  refine ⟨t__law_pull, ?_, hC⟩
  unfold t__law_pull
  refine ds_cons ?_ ?_
  refine d_asg (ts := []) ?_ ?_
  refine de_add (by rfl) ?_ ?_
  refine de_stk 0
  refine de_int
  refine dg_stk 0
  refine ds_cons ?_ ?_
  refine d_if ?_ ?_ ?_
  refine dt_cmp op_gt (lk_B2 _) ?_ ?_ (nomark _)
  refine de_stk 0
  refine de_int
  refine ds_cons ?_ ?_
  refine d_asg (ts := ([] ++ ([2] ++ []))) ?_ ?_
  refine de_callB (call_divmod) lk_divmod (by rfl) T.z_divmod (by rfl) ?_
  refine da_cons ?_ ?_
  refine de_stk 0
  refine da_cons ?_ ?_
  refine de_var 1
  refine da_nil
  refine dg_tup (by rfl) (by rfl) ?_
  refine dgs_cons ?_ ?_
  refine dg_stk 0
  refine dgs_cons ?_ ?_
  refine dg_name (i := 2) sc__law_pull.nd (by rfl) (by first | exact Or.inl (by rfl) | exact Or.inr (by rfl))
  refine dgs_nil
  refine ds_one ?_
  refine d_ret ?_
  refine de_var 2
  refine ds_nil
  refine ds_cons ?_ ?_
  refine d_asg (ts := []) ?_ ?_
  refine de_mod ?_ ?_
  refine de_callTy (call_int1) lk_int (by rfl) T.z_int (by rfl) ?_
  refine da_cons ?_ ?_
  refine de_add (by rfl) ?_ ?_
  refine de_mul ?_ ?_
  refine de_stk 0
  refine de_int
  refine de_mul ?_ ?_
  refine de_int
  refine de_stk 0
  refine da_nil
  refine de_int
  refine dg_stk 0
  refine ds_one ?_
  refine d_ret ?_
  refine de_mod ?_ ?_
  refine de_callTy (call_int1) lk_int (by rfl) T.z_int (by rfl) ?_
  refine da_cons ?_ ?_
  refine de_fdiv ?_ ?_
  refine de_stk 0
  refine de_int
  refine da_nil
  refine de_var 1
theorem w__law_colours (T : Txt K mg) {k : Nat} {c__law_pull : Con} {C : Con}
    (G__law_pull : FnG P w K mg base k T.a__law_pull T.d__law_pull ["_law_stock_here", "_law_top"] (spD K T.cl c__law_pull))
    (hl : ∀ ds Q R, C ds Q R → ds.length = 2) (hC : ∀ ds Q R, C ds Q R → t__law_colours c__law_pull (conE Q R) (entry 5 ds)) :
    FnG P w K mg base (k + 1) T.a__law_colours T.d__law_colours ["_law_stock_here", "_law_size"] (spD K T.cl C) := by
  refine okD T.x__law_colours sc__law_colours (by decide) hl fun cdv A outer s H E Ex hK hcl hG hr => ?_
  obtain ⟨K', cl', P0, H0, io⟩ := E
  obtain rfl : K' = K := hK
  obtain rfl : cl' = T.cl := hcl
  refine ⟨t__law_colours c__law_pull, ?_, hC⟩
  unfold t__law_colours
  refine ds_cons ?_ ?_
  refine d_asg (ts := ([2] ++ ([3] ++ []))) ?_ ?_
  refine de_tup ?_
  refine da_cons ?_ ?_
  refine de_call (ks := []) hG G__law_pull (hr.mono (by omega)) (by rfl) T.m__law_pull T.k__law_pull T.b__law_pull_2 tkB ?_ ?_
  refine da_cons ?_ ?_
  refine de_var 0
  refine da_cons ?_ ?_
  refine de_int
  refine da_nil
  refine dk_nil
  refine da_cons ?_ ?_
  refine de_ix (by rfl) ?_ ?_
  refine de_fz ?_
  refine df_lst ?_
  refine da_cons ?_ ?_
  refine de_int
  refine da_cons ?_ ?_
  refine de_int
  refine da_cons ?_ ?_
  refine de_int
  refine da_cons ?_ ?_
  refine de_int
  refine da_cons ?_ ?_
  refine de_int
  refine da_cons ?_ ?_
  refine de_int
  refine da_nil
  refine de_call (ks := []) hG G__law_pull (hr.mono (by omega)) (by rfl) T.m__law_pull T.k__law_pull T.b__law_pull_2 tkB ?_ ?_
  refine da_cons ?_ ?_
  refine de_var 0
  refine da_cons ?_ ?_
  refine de_int
  refine da_nil
  refine dk_nil
  refine da_nil
  refine dg_tup (by rfl) (by rfl) ?_
  refine dgs_cons ?_ ?_
  refine dg_name (i := 2) sc__law_colours.nd (by rfl) (by first | exact Or.inl (by rfl) | exact Or.inr (by rfl))
  refine dgs_cons ?_ ?_
  refine dg_name (i := 3) sc__law_colours.nd (by rfl) (by first | exact Or.inl (by rfl) | exact Or.inr (by rfl))
  refine dgs_nil
  refine ds_one ?_
  refine d_ret ?_
  refine de_sm PySem.F.slot_str_join PySem.F.type_str_join (mtJoin (by rfl)) lk_join ?_ ?_
  refine de_str
  refine da_cons ?_ ?_
  refine de_fz ?_
  refine df_lc (ts := [4]) (by rfl) sc__law_colours.nd (by decide) ?_ (blkOk_by (own := [("_law_k", 4)]) (by show blkC ["_law_stock_here", "_law_size", "_law_begin", "_law_pace", "_law_k"] (defScope s__law_colours) _ _ = true; decide +kernel)) (fun _ _ _ _ _ => ?_) (fun _ _ _ _ _ => ?_) (fun _ _ _ _ _ => ?_)
  refine di_range1 (by rfl) T.z_range ?_
  refine da_cons ?_ ?_
  refine de_var 1
  refine da_nil
  refine dg_name (i := 4) sc__law_colours.nd (by rfl) (by first | exact Or.inl (by rfl) | exact Or.inr (by rfl))
  refine dts_nil
  refine de_ix (by rfl) ?_ ?_
  refine de_str
  refine de_mod ?_ ?_
  refine de_callTy (call_int1) lk_int (by rfl) T.z_int (by rfl) ?_
  refine da_cons ?_ ?_
  refine de_add (by rfl) ?_ ?_
  refine de_var 2
  refine de_mul ?_ ?_
  refine de_var 3
  refine de_var 4
  refine da_nil
  refine de_int
  refine da_nil
theorem w__law_pick (T : Txt K mg) {k : Nat} {c__law_pull : Con} {C : Con}
    (G__law_pull : FnG P w K mg base k T.a__law_pull T.d__law_pull ["_law_stock_here", "_law_top"] (spD K T.cl c__law_pull))
    (hl : ∀ ds Q R, C ds Q R → ds.length = 2) (hC : ∀ ds Q R, C ds Q R → t__law_pick c__law_pull (conE Q R) (entry 2 ds)) :
    FnG P w K mg base (k + 1) T.a__law_pick T.d__law_pick ["_law_stock_here", "_law_menu"] (spD K T.cl C) := by
  refine okD T.x__law_pick sc__law_pick (by decide) hl fun cdv A outer s H E Ex hK hcl hG hr => ?_
  obtain ⟨K', cl', P0, H0, io⟩ := E
  obtain rfl : K' = K := hK
  obtain rfl : cl' = T.cl := hcl
  refine ⟨t__law_pick c__law_pull, ?_, hC⟩
  unfold t__law_pick
  refine ds_one ?_
  refine d_ret ?_
  refine de_ix (by rfl) ?_ ?_
  refine de_var 1
  refine de_call (ks := []) hG G__law_pull (hr.mono (by omega)) (by rfl) T.m__law_pull T.k__law_pull T.b__law_pull_2 tkB ?_ ?_
  refine da_cons ?_ ?_
  refine de_var 0
  refine da_cons ?_ ?_
  refine de_callB (cLen (by rfl)) lk_len (by rfl) T.z_len (by rfl) ?_
  refine da_cons ?_ ?_
  refine de_var 1
  refine da_nil
  refine da_nil
  refine dk_nil
theorem w__law_bough (T : Txt K mg) {k : Nat} {c__law_pull : Con} {c__law_pick : Con} {c__law_bough : Con} {C : Con}
    (G__law_pull : FnG P w K mg base k T.a__law_pull T.d__law_pull ["_law_stock_here", "_law_top"] (spD K T.cl c__law_pull))
    (G__law_pick : FnG P w K mg base k T.a__law_pick T.d__law_pick ["_law_stock_here", "_law_menu"] (spD K T.cl c__law_pick))
    (G__law_bough : FnG P w K mg base k T.a__law_bough T.d__law_bough ["_law_stock_here", "_law_colours_here", "_law_room"] (spD K T.cl c__law_bough))
    (hl : ∀ ds Q R, C ds Q R → ds.length = 3) (hC : ∀ ds Q R, C ds Q R → t__law_bough c__law_pull c__law_pick c__law_bough (conE Q R) (entry 6 ds)) :
    FnG P w K mg base (k + 1) T.a__law_bough T.d__law_bough ["_law_stock_here", "_law_colours_here", "_law_room"] (spD K T.cl C) := by
  refine okD T.x__law_bough sc__law_bough (by decide) hl fun cdv A outer s H E Ex hK hcl hG hr => ?_
  obtain ⟨K', cl', P0, H0, io⟩ := E
  obtain rfl : K' = K := hK
  obtain rfl : cl' = T.cl := hcl
  refine ⟨t__law_bough c__law_pull c__law_pick c__law_bough, ?_, hC⟩
  unfold t__law_bough
  refine ds_cons ?_ ?_
  refine d_par 4 5 (by rfl) sc__law_bough.nd (by rfl) (by rfl) (by decide) (by rfl) (by rfl) ?_
  refine da_cons ?_ ?_
  refine de_call (ks := []) hG G__law_pick (hr.mono (by omega)) (by rfl) T.m__law_pick T.k__law_pick T.b__law_pick_2 tkB ?_ ?_
  refine da_cons ?_ ?_
  refine de_var 0
  refine da_cons ?_ ?_
  refine de_fz ?_
  refine df_callTy (cList (by rfl) (by rfl)) lk_list (by rfl) T.z_list (by rfl) ?_
  refine da_cons ?_ ?_
  refine de_var 1
  refine da_nil
  refine da_nil
  refine dk_nil
  refine da_cons ?_ ?_
  refine de_if ?_ ?_ ?_
  refine dt_cmp op_gt (lk_B2 _) ?_ ?_ (nomark _)
  refine de_var 2
  refine de_int
  refine de_call (ks := []) hG G__law_pull (hr.mono (by omega)) (by rfl) T.m__law_pull T.k__law_pull T.b__law_pull_2 tkB ?_ ?_
  refine da_cons ?_ ?_
  refine de_var 0
  refine da_cons ?_ ?_
  refine de_int
  refine da_nil
  refine dk_nil
  refine de_int
  refine da_nil
  refine ds_cons ?_ ?_
  refine d_if ?_ ?_ ?_
  refine dt_cmp (opEq (by rfl) hr.units) lk_eq ?_ ?_ (nomark _)
  refine de_var 5
  refine de_int
  refine ds_one ?_
  refine d_ret ?_
  refine de_tup ?_
  refine da_cons ?_ ?_
  refine de_var 4
  refine da_cons ?_ ?_
  refine de_non
  refine da_cons ?_ ?_
  refine de_non
  refine da_nil
  refine ds_nil
  refine ds_cons ?_ ?_
  refine d_if ?_ ?_ ?_
  refine dt_cmp (opEq (by rfl) hr.units) lk_eq ?_ ?_ (nomark _)
  refine de_var 5
  refine de_int
  refine ds_one ?_
  refine d_ret ?_
  refine de_tup ?_
  refine da_cons ?_ ?_
  refine de_var 4
  refine da_cons ?_ ?_
  refine de_call (ks := []) hG G__law_bough (hr.mono (by omega)) (by rfl) T.m__law_bough T.k__law_bough T.b__law_bough_3 tkB ?_ ?_
  refine da_cons ?_ ?_
  refine de_var 0
  refine da_cons ?_ ?_
  refine de_var 1
  refine da_cons ?_ ?_
  refine de_sub ?_ ?_
  refine de_var 2
  refine de_int
  refine da_nil
  refine dk_nil
  refine da_cons ?_ ?_
  refine de_non
  refine da_nil
  refine ds_nil
  refine ds_cons ?_ ?_
  refine d_if ?_ ?_ ?_
  refine dt_cmp (opEq (by rfl) hr.units) lk_eq ?_ ?_ (nomark _)
  refine de_var 5
  refine de_int
  refine ds_one ?_
  refine d_ret ?_
  refine de_tup ?_
  refine da_cons ?_ ?_
  refine de_var 4
  refine da_cons ?_ ?_
  refine de_non
  refine da_cons ?_ ?_
  refine de_call (ks := []) hG G__law_bough (hr.mono (by omega)) (by rfl) T.m__law_bough T.k__law_bough T.b__law_bough_3 tkB ?_ ?_
  refine da_cons ?_ ?_
  refine de_var 0
  refine da_cons ?_ ?_
  refine de_var 1
  refine da_cons ?_ ?_
  refine de_sub ?_ ?_
  refine de_var 2
  refine de_int
  refine da_nil
  refine dk_nil
  refine da_nil
  refine ds_nil
  refine ds_cons ?_ ?_
  refine d_if ?_ ?_ ?_
  refine dt_cmp (opEq (by rfl) hr.units) lk_eq ?_ ?_ (nomark _)
  refine de_var 2
  refine de_int
  refine ds_one ?_
  refine d_ret ?_
  refine de_tup ?_
  refine da_cons ?_ ?_
  refine de_var 4
  refine da_cons ?_ ?_
  refine de_tup ?_
  refine da_cons ?_ ?_
  refine de_call (ks := []) hG G__law_pick (hr.mono (by omega)) (by rfl) T.m__law_pick T.k__law_pick T.b__law_pick_2 tkB ?_ ?_
  refine da_cons ?_ ?_
  refine de_var 0
  refine da_cons ?_ ?_
  refine de_fz ?_
  refine df_callTy (cList (by rfl) (by rfl)) lk_list (by rfl) T.z_list (by rfl) ?_
  refine da_cons ?_ ?_
  refine de_var 1
  refine da_nil
  refine da_nil
  refine dk_nil
  refine da_cons ?_ ?_
  refine de_non
  refine da_cons ?_ ?_
  refine de_non
  refine da_nil
  refine da_cons ?_ ?_
  refine de_non
  refine da_nil
  refine ds_nil
  refine ds_cons ?_ ?_
  refine d_set 3 sc__law_bough.nd (by rfl) (by first | exact Or.inl (by rfl) | exact Or.inr (by rfl)) ?_
  refine de_add (by rfl) ?_ ?_
  refine de_int
  refine de_call (ks := []) hG G__law_pull (hr.mono (by omega)) (by rfl) T.m__law_pull T.k__law_pull T.b__law_pull_2 tkB ?_ ?_
  refine da_cons ?_ ?_
  refine de_var 0
  refine da_cons ?_ ?_
  refine de_sub ?_ ?_
  refine de_var 2
  refine de_int
  refine da_nil
  refine dk_nil
  refine ds_one ?_
  refine d_ret ?_
  refine de_tup ?_
  refine da_cons ?_ ?_
  refine de_var 4
  refine da_cons ?_ ?_
  refine de_call (ks := []) hG G__law_bough (hr.mono (by omega)) (by rfl) T.m__law_bough T.k__law_bough T.b__law_bough_3 tkB ?_ ?_
  refine da_cons ?_ ?_
  refine de_var 0
  refine da_cons ?_ ?_
  refine de_var 1
  refine da_cons ?_ ?_
  refine de_var 3
  refine da_nil
  refine dk_nil
  refine da_cons ?_ ?_
  refine de_call (ks := []) hG G__law_bough (hr.mono (by omega)) (by rfl) T.m__law_bough T.k__law_bough T.b__law_bough_3 tkB ?_ ?_
  refine da_cons ?_ ?_
  refine de_var 0
  refine da_cons ?_ ?_
  refine de_var 1
  refine da_cons ?_ ?_
  refine de_sub ?_ ?_
  refine de_sub ?_ ?_
  refine de_var 2
  refine de_int
  refine de_var 3
  refine da_nil
  refine dk_nil
  refine da_nil
theorem w__law_shape (T : Txt K mg) {k : Nat} {c__law_shape : Con} {C : Con}
    (G__law_shape : FnG P w K mg base k T.a__law_shape T.d__law_shape ["_law_bough_here"] (spD K T.cl c__law_shape))
    (hl : ∀ ds Q R, C ds Q R → ds.length = 1) (hC : ∀ ds Q R, C ds Q R → t__law_shape c__law_shape (conE Q R) (entry 3 ds)) :
    FnG P w K mg base (k + 1) T.a__law_shape T.d__law_shape ["_law_bough_here"] (spD K T.cl C) := by
  refine okD T.x__law_shape sc__law_shape (by decide) hl fun cdv A outer s H E Ex hK hcl hG hr => ?_
  obtain ⟨K', cl', P0, H0, io⟩ := E
  obtain rfl : K' = K := hK
  obtain rfl : cl' = T.cl := hcl
  refine ⟨t__law_shape c__law_shape, ?_, hC⟩
  unfold t__law_shape
  refine ds_cons ?_ ?_
  refine d_if ?_ ?_ ?_
  refine dt_isN ?_
  refine de_var 0
  refine ds_one ?_
  refine d_ret ?_
  refine de_tup ?_
  refine da_cons ?_ ?_
  refine de_int
  refine da_cons ?_ ?_
  refine de_int
  refine da_nil
  refine ds_nil
  refine ds_cons ?_ ?_
  refine d_par 1 2 (by rfl) sc__law_shape.nd (by rfl) (by rfl) (by decide) (by rfl) (by rfl) ?_
  refine da_cons ?_ ?_
  refine de_call (ks := []) hG G__law_shape (hr.mono (by omega)) (by rfl) T.m__law_shape T.k__law_shape T.b__law_shape_1 tkB ?_ ?_
  refine da_cons ?_ ?_
  refine de_ix (by rfl) ?_ ?_
  refine de_var 0
  refine de_int
  refine da_nil
  refine dk_nil
  refine da_cons ?_ ?_
  refine de_call (ks := []) hG G__law_shape (hr.mono (by omega)) (by rfl) T.m__law_shape T.k__law_shape T.b__law_shape_1 tkB ?_ ?_
  refine da_cons ?_ ?_
  refine de_ix (by rfl) ?_ ?_
  refine de_var 0
  refine de_int
  refine da_nil
  refine dk_nil
  refine da_nil
  refine ds_one ?_
  refine d_ret ?_
  refine de_tup ?_
  refine da_cons ?_ ?_
  refine de_add (by rfl) ?_ ?_
  refine de_add (by rfl) ?_ ?_
  refine de_int
  refine de_ix (by rfl) ?_ ?_
  refine de_var 1
  refine de_int
  refine de_ix (by rfl) ?_ ?_
  refine de_var 2
  refine de_int
  refine da_cons ?_ ?_
  refine de_add (by rfl) ?_ ?_
  refine de_int
  refine de_callB (call_max2 (by rfl)) lk_max2 (by rfl) T.z_max (by rfl) ?_
  refine da_cons ?_ ?_
  refine de_ix (by rfl) ?_ ?_
  refine de_var 1
  refine de_int
  refine da_cons ?_ ?_
  refine de_ix (by rfl) ?_ ?_
  refine de_var 2
  refine de_int
  refine da_nil
  refine da_nil
theorem w_Tree_repr (T : Txt K mg) {k : Nat} {C : Con}
    (hl : ∀ ds Q R, C ds Q R → ds.length = 1) (hC : ∀ ds Q R, C ds Q R → t_Tree_repr (conE Q R) (entry 1 ds)) :
    FnG P w K mg base (k + 1) T.a_Tree_repr T.d_Tree_repr ["self"] (spD K T.cl C) := by
  refine okD T.x_Tree_repr sc_Tree_repr (by decide) hl fun cdv A outer s H E Ex hK hcl hG hr => ?_
  obtain ⟨K', cl', P0, H0, io⟩ := E
  obtain rfl : K' = K := hK
  obtain rfl : cl' = T.cl := hcl
  refine ⟨t_Tree_repr, ?_, hC⟩
  unfold t_Tree_repr
  refine ds_one ?_
  refine d_ret ?_
  refine de_joined ?_
  refine .cons ?_ ?_
  refine de_str
  refine .cons ?_ ?_
  refine de_fmt ?_
  refine de_fld (by rfl) (fun c => (T.cls c).cl) T.n_nodes ?_
  refine de_var 0
  refine .cons ?_ ?_
  refine de_str
  refine .nil
theorem w_Tree_str (T : Txt K mg) {k : Nat} {C : Con}
    (hl : ∀ ds Q R, C ds Q R → ds.length = 1) (hC : ∀ ds Q R, C ds Q R → t_Tree_str (conE Q R) (entry 1 ds)) :
    FnG P w K mg base (k + 1) T.a_Tree_str T.d_Tree_str ["self"] (spD K T.cl C) := by
  refine okD T.x_Tree_str sc_Tree_str (by decide) hl fun cdv A outer s H E Ex hK hcl hG hr => ?_
  obtain ⟨K', cl', P0, H0, io⟩ := E
  obtain rfl : K' = K := hK
  obtain rfl : cl' = T.cl := hcl
  refine ⟨t_Tree_str, ?_, hC⟩
  unfold t_Tree_str
  refine ds_one ?_
  refine d_ret ?_
  refine de_callTy (cStr) lk_str (by rfl) T.z_str (by rfl) ?_
  refine da_cons ?_ ?_
  refine de_fld (by rfl) (fun c => (T.cls c).cl) T.n_line ?_
  refine de_var 0
  refine da_nil
theorem w_Tree_paths (T : Txt K mg) {k : Nat} {C : Con}
    (hl : ∀ ds Q R, C ds Q R → ds.length = 1) (hC : ∀ ds Q R, C ds Q R → t_Tree_paths (conE Q R) (entry 1 ds)) :
    FnG P w K mg base (k + 1) T.a_Tree_paths T.d_Tree_paths ["self"] (spD K T.cl C) := by
  refine okD T.x_Tree_paths sc_Tree_paths (by decide) hl fun cdv A outer s H E Ex hK hcl hG hr => ?_
  obtain ⟨K', cl', P0, H0, io⟩ := E
  obtain rfl : K' = K := hK
  obtain rfl : cl' = T.cl := hcl
  refine ⟨t_Tree_paths, ?_, hC⟩
  unfold t_Tree_paths
  refine ds_one ?_
  refine d_ret ?_
  refine de_fld (by rfl) (fun c => (T.cls c).cl) T.n_routes ?_
  refine de_var 0
theorem w_Tree_levels (T : Txt K mg) {k : Nat} {C : Con}
    (hl : ∀ ds Q R, C ds Q R → ds.length = 1) (hC : ∀ ds Q R, C ds Q R → t_Tree_levels (conE Q R) (entry 1 ds)) :
    FnG P w K mg base (k + 1) T.a_Tree_levels T.d_Tree_levels ["self"] (spD K T.cl C) := by
  refine okD T.x_Tree_levels sc_Tree_levels (by decide) hl fun cdv A outer s H E Ex hK hcl hG hr => ?_
  obtain ⟨K', cl', P0, H0, io⟩ := E
  obtain rfl : K' = K := hK
  obtain rfl : cl' = T.cl := hcl
  refine ⟨t_Tree_levels, ?_, hC⟩
  unfold t_Tree_levels
  refine ds_one ?_
  refine d_ret ?_
  refine de_fld (by rfl) (fun c => (T.cls c).cl) T.n_depth ?_
  refine de_var 0
theorem w_Tree_size (T : Txt K mg) {k : Nat} {C : Con}
    (hl : ∀ ds Q R, C ds Q R → ds.length = 1) (hC : ∀ ds Q R, C ds Q R → t_Tree_size (conE Q R) (entry 1 ds)) :
    FnG P w K mg base (k + 1) T.a_Tree_size T.d_Tree_size ["self"] (spD K T.cl C) := by
  refine okD T.x_Tree_size sc_Tree_size (by decide) hl fun cdv A outer s H E Ex hK hcl hG hr => ?_
  obtain ⟨K', cl', P0, H0, io⟩ := E
  obtain rfl : K' = K := hK
  obtain rfl : cl' = T.cl := hcl
  refine ⟨t_Tree_size, ?_, hC⟩
  unfold t_Tree_size
  refine ds_one ?_
  refine d_ret ?_
  refine de_fld (by rfl) (fun c => (T.cls c).cl) T.n_nodes ?_
  refine de_var 0
theorem w_Tree_tint (T : Txt K mg) {k : Nat} {C : Con}
    (hl : ∀ ds Q R, C ds Q R → ds.length = 1) (hC : ∀ ds Q R, C ds Q R → t_Tree_tint (conE Q R) (entry 1 ds)) :
    FnG P w K mg base (k + 1) T.a_Tree_tint T.d_Tree_tint ["self"] (spD K T.cl C) := by
  refine okD T.x_Tree_tint sc_Tree_tint (by decide) hl fun cdv A outer s H E Ex hK hcl hG hr => ?_
  obtain ⟨K', cl', P0, H0, io⟩ := E
  obtain rfl : K' = K := hK
  obtain rfl : cl' = T.cl := hcl
  refine ⟨t_Tree_tint, ?_, hC⟩
  unfold t_Tree_tint
  refine ds_one ?_
  refine d_ret ?_
  refine de_fld (by rfl) (fun c => (T.cls c).cl) T.n_letter ?_
  refine de_var 0
theorem w__law_line (T : Txt K mg) {k : Nat} {c__law_line : Con} {C : Con}
    (G__law_line : FnG P w K mg base k T.a__law_line T.d__law_line ["_law_bough_here"] (spD K T.cl c__law_line))
    (hl : ∀ ds Q R, C ds Q R → ds.length = 1) (hC : ∀ ds Q R, C ds Q R → t__law_line c__law_line (conE Q R) (entry 1 ds)) :
    FnG P w K mg base (k + 1) T.a__law_line T.d__law_line ["_law_bough_here"] (spD K T.cl C) := by
  refine okD T.x__law_line sc__law_line (by decide) hl fun cdv A outer s H E Ex hK hcl hG hr => ?_
  obtain ⟨K', cl', P0, H0, io⟩ := E
  obtain rfl : K' = K := hK
  obtain rfl : cl' = T.cl := hcl
  refine ⟨t__law_line c__law_line, ?_, hC⟩
  unfold t__law_line
  refine ds_cons ?_ ?_
  refine d_if ?_ ?_ ?_
  refine dt_isN ?_
  refine de_var 0
  refine ds_one ?_
  refine d_ret ?_
  refine de_str
  refine ds_nil
  refine ds_cons ?_ ?_
  refine d_if ?_ ?_ ?_
  refine PW.pt ?_
  refine dw_and ?_ ?_
  refine dt_isN ?_
  refine de_ix (by rfl) ?_ ?_
  refine de_var 0
  refine de_int
  refine dw_and1 ?_
  refine dt_isN ?_
  refine de_ix (by rfl) ?_ ?_
  refine de_var 0
  refine de_int
  refine ds_one ?_
  refine d_ret ?_
  refine de_ix (by rfl) ?_ ?_
  refine de_var 0
  refine de_int
  refine ds_nil
  refine ds_one ?_
  refine d_ret ?_
  refine de_add (by rfl) ?_ ?_
  refine de_add (by rfl) ?_ ?_
  refine de_add (by rfl) ?_ ?_
  refine de_add (by rfl) ?_ ?_
  refine de_add (by rfl) ?_ ?_
  refine de_ix (by rfl) ?_ ?_
  refine de_var 0
  refine de_int
  refine de_str
  refine de_call (ks := []) hG G__law_line (hr.mono (by omega)) (by rfl) T.m__law_line T.k__law_line T.b__law_line_1 tkB ?_ ?_
  refine da_cons ?_ ?_
  refine de_ix (by rfl) ?_ ?_
  refine de_var 0
  refine de_int
  refine da_nil
  refine dk_nil
  refine de_str
  refine de_call (ks := []) hG G__law_line (hr.mono (by omega)) (by rfl) T.m__law_line T.k__law_line T.b__law_line_1 tkB ?_ ?_
  refine da_cons ?_ ?_
  refine de_ix (by rfl) ?_ ?_
  refine de_var 0
  refine de_int
  refine da_nil
  refine dk_nil
  refine de_str
theorem w__law_spots (T : Txt K mg) {k : Nat} {c__law_spots : Con} {C : Con}
    (G__law_spots : FnG P w K mg base k T.a__law_spots T.d__law_spots ["_law_bough_here", "_law_way_down"] (spD K T.cl c__law_spots))
    (hl : ∀ ds Q R, C ds Q R → ds.length = 2) (hC : ∀ ds Q R, C ds Q R → t__law_spots c__law_spots (conE Q R) (entry 2 ds)) :
    FnG P w K mg base (k + 1) T.a__law_spots T.d__law_spots ["_law_bough_here", "_law_way_down"] (spD K T.cl C) := by
  refine okD T.x__law_spots sc__law_spots (by decide) hl fun cdv A outer s H E Ex hK hcl hG hr => ?_
  obtain ⟨K', cl', P0, H0, io⟩ := E
  obtain rfl : K' = K := hK
  obtain rfl : cl' = T.cl := hcl
  refine ⟨t__law_spots c__law_spots, ?_, hC⟩
  unfold t__law_spots
  refine ds_cons ?_ ?_
  refine d_if ?_ ?_ ?_
  refine dt_isN ?_
  refine de_var 0
  refine ds_one ?_
  refine d_ret ?_
  refine de_fz ?_
  refine df_lst ?_
  refine da_nil
  refine ds_nil
  refine ds_one ?_
  refine d_ret ?_
  refine de_add (by rfl) ?_ ?_
  refine de_add (by rfl) ?_ ?_
  refine de_fz ?_
  refine df_lst ?_
  refine da_cons ?_ ?_
  refine de_var 1
  refine da_nil
  refine de_call (ks := []) hG G__law_spots (hr.mono (by omega)) (by rfl) T.m__law_spots T.k__law_spots T.b__law_spots_2 tkB ?_ ?_
  refine da_cons ?_ ?_
  refine de_ix (by rfl) ?_ ?_
  refine de_var 0
  refine de_int
  refine da_cons ?_ ?_
  refine de_add (by rfl) ?_ ?_
  refine de_var 1
  refine de_str
  refine da_nil
  refine dk_nil
  refine de_call (ks := []) hG G__law_spots (hr.mono (by omega)) (by rfl) T.m__law_spots T.k__law_spots T.b__law_spots_2 tkB ?_ ?_
  refine da_cons ?_ ?_
  refine de_ix (by rfl) ?_ ?_
  refine de_var 0
  refine de_int
  refine da_cons ?_ ?_
  refine de_add (by rfl) ?_ ?_
  refine de_var 1
  refine de_str
  refine da_nil
  refine dk_nil
theorem w_Tree_right (T : Txt K mg) {k : Nat} {C : Con}
    (hl : ∀ ds Q R, C ds Q R → ds.length = 1) (hC : ∀ ds Q R, C ds Q R → t_Tree_right (conE Q R) (entry 1 ds)) :
    FnG P w K mg base (k + 1) T.a_Tree_right T.d_Tree_right ["self"] (spD K T.cl C) := by
  refine okD T.x_Tree_right sc_Tree_right (by decide) hl fun cdv A outer s H E Ex hK hcl hG hr => ?_
  obtain ⟨K', cl', P0, H0, io⟩ := E
  obtain rfl : K' = K := hK
  obtain rfl : cl' = T.cl := hcl
  refine ⟨t_Tree_right, ?_, hC⟩
  unfold t_Tree_right
  refine ds_one ?_
  refine d_ret ?_
  refine de_fld (by rfl) (fun c => (T.cls c).cl) T.n_second ?_
  refine de_var 0
theorem w_Tree_left (T : Txt K mg) {k : Nat} {C : Con}
    (hl : ∀ ds Q R, C ds Q R → ds.length = 1) (hC : ∀ ds Q R, C ds Q R → t_Tree_left (conE Q R) (entry 1 ds)) :
    FnG P w K mg base (k + 1) T.a_Tree_left T.d_Tree_left ["self"] (spD K T.cl C) := by
  refine okD T.x_Tree_left sc_Tree_left (by decide) hl fun cdv A outer s H E Ex hK hcl hG hr => ?_
  obtain ⟨K', cl', P0, H0, io⟩ := E
  obtain rfl : K' = K := hK
  obtain rfl : cl' = T.cl := hcl
  refine ⟨t_Tree_left, ?_, hC⟩
  unfold t_Tree_left
  refine ds_one ?_
  refine d_ret ?_
  refine de_fld (by rfl) (fun c => (T.cls c).cl) T.n_first ?_
  refine de_var 0
theorem w__law_is (T : Txt K mg) {k : Nat} {c__law_shape : Con} {c_Tree_repr : Con} {c_Tree_str : Con} {c_Tree_paths : Con} {c_Tree_levels : Con} {c_Tree_size : Con} {c_Tree_tint : Con} {c__law_line : Con} {c__law_spots : Con} {c__law_is : Con} {c_Tree_right : Con} {c_Tree_left : Con} {C : Con}
    (G__law_shape : FnG P w K mg base k T.a__law_shape T.d__law_shape ["_law_bough_here"] (spD K T.cl c__law_shape))
    (G_Tree_repr : FnG P w K mg base k T.a_Tree_repr T.d_Tree_repr ["self"] (spD K T.cl c_Tree_repr))
    (G_Tree_str : FnG P w K mg base k T.a_Tree_str T.d_Tree_str ["self"] (spD K T.cl c_Tree_str))
    (G_Tree_paths : FnG P w K mg base k T.a_Tree_paths T.d_Tree_paths ["self"] (spD K T.cl c_Tree_paths))
    (G_Tree_levels : FnG P w K mg base k T.a_Tree_levels T.d_Tree_levels ["self"] (spD K T.cl c_Tree_levels))
    (G_Tree_size : FnG P w K mg base k T.a_Tree_size T.d_Tree_size ["self"] (spD K T.cl c_Tree_size))
    (G_Tree_tint : FnG P w K mg base k T.a_Tree_tint T.d_Tree_tint ["self"] (spD K T.cl c_Tree_tint))
    (G__law_line : FnG P w K mg base k T.a__law_line T.d__law_line ["_law_bough_here"] (spD K T.cl c__law_line))
    (G__law_spots : FnG P w K mg base k T.a__law_spots T.d__law_spots ["_law_bough_here", "_law_way_down"] (spD K T.cl c__law_spots))
    (G__law_is : FnG P w K mg base k T.a__law_is T.d__law_is ["_law_mine", "_law_bough_here"] (spD K T.cl c__law_is))
    (G_Tree_right : FnG P w K mg base k T.a_Tree_right T.d_Tree_right ["self"] (spD K T.cl c_Tree_right))
    (G_Tree_left : FnG P w K mg base k T.a_Tree_left T.d_Tree_left ["self"] (spD K T.cl c_Tree_left))
    (hl : ∀ ds Q R, C ds Q R → ds.length = 2) (hC : ∀ ds Q R, C ds Q R → t__law_is c__law_shape c_Tree_repr c_Tree_str c_Tree_paths c_Tree_levels c_Tree_size c_Tree_tint c__law_line c__law_spots c__law_is c_Tree_right c_Tree_left (conE Q R) (entry 6 ds)) :
    FnG P w K mg base (k + 2 + 1) T.a__law_is T.d__law_is ["_law_mine", "_law_bough_here"] (spD K T.cl C) := by
  refine okD T.x__law_is sc__law_is (by decide) hl fun cdv A outer s H E Ex hK hcl hG hr => ?_
  obtain ⟨K', cl', P0, H0, io⟩ := E
  obtain rfl : K' = K := hK
  obtain rfl : cl' = T.cl := hcl
  refine ⟨t__law_is c__law_shape c_Tree_repr c_Tree_str c_Tree_paths c_Tree_levels c_Tree_size c_Tree_tint c__law_line c__law_spots c__law_is c_Tree_right c_Tree_left, ?_, hC⟩
  unfold t__law_is
  refine ds_cons ?_ ?_
  refine d_if ?_ ?_ ?_
  refine PW.pt ?_
  refine dw_or ?_ ?_
  refine dt_isN ?_
  refine de_var 1
  refine dw_or1 ?_
  refine dt_isN ?_
  refine de_var 0
  refine ds_one ?_
  refine d_ret ?_
  refine de_and ?_ ?_
  refine de_isN ?_
  refine de_var 1
  refine de_one ?_
  refine de_isN ?_
  refine de_var 0
  refine ds_nil
  refine ds_cons ?_ ?_
  refine d_asg (ts := ([4] ++ ([5] ++ []))) ?_ ?_
  refine de_call (ks := []) hG G__law_shape (hr.mono (by omega)) (by rfl) T.m__law_shape T.k__law_shape T.b__law_shape_1 tkB ?_ ?_
  refine da_cons ?_ ?_
  refine de_var 1
  refine da_nil
  refine dk_nil
  refine dg_tup (by rfl) (by rfl) ?_
  refine dgs_cons ?_ ?_
  refine dg_name (i := 4) sc__law_is.nd (by rfl) (by first | exact Or.inl (by rfl) | exact Or.inr (by rfl))
  refine dgs_cons ?_ ?_
  refine dg_name (i := 5) sc__law_is.nd (by rfl) (by first | exact Or.inl (by rfl) | exact Or.inr (by rfl))
  refine dgs_nil
  refine ds_cons ?_ ?_
  refine d_set 2 sc__law_is.nd (by rfl) (by first | exact Or.inl (by rfl) | exact Or.inr (by rfl)) ?_
  refine de_fz ?_
  refine df_lst ?_
  refine da_cons ?_ ?_
  refine de_prop (cn := 0) hG (T.cls _).cl T.p_tint G_Tree_tint (hr.mono (by omega)) T.b_Tree_tint_0 ?_
  refine de_var 0
  refine da_cons ?_ ?_
  refine de_prop (cn := 0) hG (T.cls _).cl T.p_size G_Tree_size (hr.mono (by omega)) T.b_Tree_size_0 ?_
  refine de_var 0
  refine da_cons ?_ ?_
  refine de_prop (cn := 0) hG (T.cls _).cl T.p_levels G_Tree_levels (hr.mono (by omega)) T.b_Tree_levels_0 ?_
  refine de_var 0
  refine da_cons ?_ ?_
  refine de_prop (cn := 0) hG (T.cls _).cl T.p_paths G_Tree_paths (hr.mono (by omega)) T.b_Tree_paths_0 ?_
  refine de_var 0
  refine da_cons ?_ ?_
  refine de_callTy (own_str (E := ⟨_, T.cl, P0, H0, io⟩) (cn := 0) (by rfl) hG T.o_Tree_str T.of_Tree_str G_Tree_str (hr.mono (by omega)) T.b_Tree_str_0) lk_own (by rfl) T.z_str (by rfl) ?_
  refine da_cons ?_ ?_
  refine de_var 0
  refine da_nil
  refine da_cons ?_ ?_
  refine de_callB (own_repr (E := ⟨_, T.cl, P0, H0, io⟩) (cn := 0) (by rfl) hG T.o_Tree_repr T.of_Tree_repr G_Tree_repr (hr.mono (by omega)) T.b_Tree_repr_0) lk_own (by rfl) T.z_repr (by rfl) ?_
  refine da_cons ?_ ?_
  refine de_var 0
  refine da_nil
  refine da_nil
  refine ds_cons ?_ ?_
  refine d_set 3 sc__law_is.nd (by rfl) (by first | exact Or.inl (by rfl) | exact Or.inr (by rfl)) ?_
  refine de_fz ?_
  refine df_lst ?_
  refine da_cons ?_ ?_
  refine de_ix (by rfl) ?_ ?_
  refine de_var 1
  refine de_int
  refine da_cons ?_ ?_
  refine de_var 4
  refine da_cons ?_ ?_
  refine de_var 5
  refine da_cons ?_ ?_
  refine de_callTy (call_tuple_of) lk_tuple (by rfl) T.z_tuple (by rfl) ?_
  refine da_cons ?_ ?_
  refine de_call (ks := []) hG G__law_spots (hr.mono (by omega)) (by rfl) T.m__law_spots T.k__law_spots T.b__law_spots_2 tkB ?_ ?_
  refine da_cons ?_ ?_
  refine de_var 1
  refine da_cons ?_ ?_
  refine de_str
  refine da_nil
  refine dk_nil
  refine da_nil
  refine da_cons ?_ ?_
  refine de_call (ks := []) hG G__law_line (hr.mono (by omega)) (by rfl) T.m__law_line T.k__law_line T.b__law_line_1 tkB ?_ ?_
  refine da_cons ?_ ?_
  refine de_var 1
  refine da_nil
  refine dk_nil
  refine da_nil
  refine ds_cons ?_ ?_
  refine d_if ?_ ?_ ?_
  refine PW.pt ?_
  refine dw_or ?_ ?_
  refine dt_cmp (opNe (by rfl) hr.units) lk_ne ?_ ?_ (nomark _)
  refine de_callB (cRepr (by rfl) hG hr.units) lk_repr (by rfl) T.z_repr (by rfl) ?_
  refine da_cons ?_ ?_
  refine de_var 2
  refine da_nil
  refine de_callB (cRepr (by rfl) hG hr.units) lk_repr (by rfl) T.z_repr (by rfl) ?_
  refine da_cons ?_ ?_
  refine de_add (by rfl) ?_ ?_
  refine de_var 3
  refine de_fz ?_
  refine df_lst ?_
  refine da_cons ?_ ?_
  refine de_add (by rfl) ?_ ?_
  refine de_add (by rfl) ?_ ?_
  refine de_str
  refine de_callTy (cStr) lk_str (by rfl) T.z_str (by rfl) ?_
  refine da_cons ?_ ?_
  refine de_var 4
  refine da_nil
  refine de_str
  refine da_nil
  refine da_nil
  refine dw_or1 ?_
  refine dt_not ?_
  refine dt_tru (by rfl) ?_
  refine de_isT T.it_Tree T.cls (by rfl) (by rfl) T.z_isinstance ?_ (pe_own (by rfl) T.m_Tree)
  refine de_var 0
  refine ds_one ?_
  refine d_ret ?_
  refine de_bl
  refine ds_nil
  refine ds_one ?_
  refine d_ret ?_
  refine de_and ?_ ?_
  refine de_call (ks := []) hG G__law_is (hr.mono (by omega)) (by rfl) T.m__law_is T.k__law_is T.b__law_is_2 tkB ?_ ?_
  refine da_cons ?_ ?_
  refine de_prop (cn := 0) hG (T.cls _).cl T.p_left G_Tree_left (hr.mono (by omega)) T.b_Tree_left_0 ?_
  refine de_var 0
  refine da_cons ?_ ?_
  refine de_ix (by rfl) ?_ ?_
  refine de_var 1
  refine de_int
  refine da_nil
  refine dk_nil
  refine de_one ?_
  refine de_call (ks := []) hG G__law_is (hr.mono (by omega)) (by rfl) T.m__law_is T.k__law_is T.b__law_is_2 tkB ?_ ?_
  refine da_cons ?_ ?_
  refine de_prop (cn := 0) hG (T.cls _).cl T.p_right G_Tree_right (hr.mono (by omega)) T.b_Tree_right_0 ?_
  refine de_var 0
  refine da_cons ?_ ?_
  refine de_ix (by rfl) ?_ ?_
  refine de_var 1
  refine de_int
  refine da_nil
  refine dk_nil
theorem w_is_tint (T : Txt K mg) {k : Nat} {C : Con}
    (hl : ∀ ds Q R, C ds Q R → ds.length = 1) (hC : ∀ ds Q R, C ds Q R → t_is_tint (conE Q R) (entry 1 ds)) :
    FnG P w K mg base (k + 1) T.a_is_tint T.d_is_tint ["value"] (spD K T.cl C) := by
  refine okD T.x_is_tint sc_is_tint (by decide) hl fun cdv A outer s H E Ex hK hcl hG hr => ?_
  obtain ⟨K', cl', P0, H0, io⟩ := E
  obtain rfl : K' = K := hK
  obtain rfl : cl' = T.cl := hcl
  refine ⟨t_is_tint, ?_, hC⟩
  unfold t_is_tint
  refine ds_one ?_
  refine d_ret ?_
  refine de_and ?_ ?_
  refine de_isT T.it_str T.cls (by rfl) (by rfl) T.z_isinstance ?_ (pe_tyn (by rfl) T.z_str (by rfl))
  refine de_var 0
  refine de_and ?_ ?_
  refine de_cmp (opEq (by rfl) hr.units) lk_eq ?_ ?_ (nomark _)
  refine de_callB (cLen (by rfl)) lk_len (by rfl) T.z_len (by rfl) ?_
  refine da_cons ?_ ?_
  refine de_var 0
  refine da_nil
  refine de_int
  refine de_one ?_
  refine de_cmp (opIn (by rfl)) lk_in ?_ ?_ (by with_unfolding_all exact Eq.refl _)
  refine de_var 0
  refine de_glob (by rfl) T.g_LETTERS
theorem w_side_text (T : Txt K mg) {k : Nat} {C : Con}
    (hl : ∀ ds Q R, C ds Q R → ds.length = 1) (hC : ∀ ds Q R, C ds Q R → t_side_text (conE Q R) (entry 1 ds)) :
    FnG P w K mg base (k + 1) T.a_side_text T.d_side_text ["side"] (spD K T.cl C) := by
  refine okD T.x_side_text sc_side_text (by decide) hl fun cdv A outer s H E Ex hK hcl hG hr => ?_
  obtain ⟨K', cl', P0, H0, io⟩ := E
  obtain rfl : K' = K := hK
  obtain rfl : cl' = T.cl := hcl
  refine ⟨t_side_text, ?_, hC⟩
  unfold t_side_text
  refine ds_one ?_
  refine d_ret ?_
  refine de_if ?_ ?_ ?_
  refine dt_isN ?_
  refine de_var 0
  refine de_str
  refine de_fld (by rfl) (fun c => (T.cls c).cl) T.n_line ?_
  refine de_var 0
theorem w_side_size (T : Txt K mg) {k : Nat} {C : Con}
    (hl : ∀ ds Q R, C ds Q R → ds.length = 1) (hC : ∀ ds Q R, C ds Q R → t_side_size (conE Q R) (entry 1 ds)) :
    FnG P w K mg base (k + 1) T.a_side_size T.d_side_size ["side"] (spD K T.cl C) := by
  refine okD T.x_side_size sc_side_size (by decide) hl fun cdv A outer s H E Ex hK hcl hG hr => ?_
  obtain ⟨K', cl', P0, H0, io⟩ := E
  obtain rfl : K' = K := hK
  obtain rfl : cl' = T.cl := hcl
  refine ⟨t_side_size, ?_, hC⟩
  unfold t_side_size
  refine ds_one ?_
  refine d_ret ?_
  refine de_if ?_ ?_ ?_
  refine dt_isN ?_
  refine de_var 0
  refine de_int
  refine de_fld (by rfl) (fun c => (T.cls c).cl) T.n_nodes ?_
  refine de_var 0
theorem w_side_levels (T : Txt K mg) {k : Nat} {C : Con}
    (hl : ∀ ds Q R, C ds Q R → ds.length = 1) (hC : ∀ ds Q R, C ds Q R → t_side_levels (conE Q R) (entry 1 ds)) :
    FnG P w K mg base (k + 1) T.a_side_levels T.d_side_levels ["side"] (spD K T.cl C) := by
  refine okD T.x_side_levels sc_side_levels (by decide) hl fun cdv A outer s H E Ex hK hcl hG hr => ?_
  obtain ⟨K', cl', P0, H0, io⟩ := E
  obtain rfl : K' = K := hK
  obtain rfl : cl' = T.cl := hcl
  refine ⟨t_side_levels, ?_, hC⟩
  unfold t_side_levels
  refine ds_one ?_
  refine d_ret ?_
  refine de_if ?_ ?_ ?_
  refine dt_isN ?_
  refine de_var 0
  refine de_int
  refine de_fld (by rfl) (fun c => (T.cls c).cl) T.n_depth ?_
  refine de_var 0
theorem w_side_routes (T : Txt K mg) {k : Nat} {C : Con}
    (hl : ∀ ds Q R, C ds Q R → ds.length = 2) (hC : ∀ ds Q R, C ds Q R → t_side_routes (conE Q R) (entry 3 ds)) :
    FnG P w K mg base (k + 1) T.a_side_routes T.d_side_routes ["letter", "side"] (spD K T.cl C) := by
  refine okD T.x_side_routes sc_side_routes (by decide) hl fun cdv A outer s H E Ex hK hcl hG hr => ?_
  obtain ⟨K', cl', P0, H0, io⟩ := E
  obtain rfl : K' = K := hK
  obtain rfl : cl' = T.cl := hcl
  refine ⟨t_side_routes, ?_, hC⟩
  unfold t_side_routes
  refine ds_one ?_
  refine d_ret ?_
  refine de_if ?_ ?_ ?_
  refine dt_isN ?_
  refine de_var 1
  refine de_tup ?_
  refine da_nil
  refine de_callTy (call_tuple_of) lk_tuple (by rfl) T.z_tuple (by rfl) ?_
  refine da_cons ?_ ?_
  refine de_fz ?_
  refine df_lc (ts := [2]) (by rfl) sc_side_routes.nd (by decide) ?_ (blkOk_by (own := [("path", 2)]) (by show blkC ["letter", "side", "path"] (defScope s_side_routes) _ _ = true; decide +kernel)) (fun _ _ _ _ _ => ?_) (fun _ _ _ _ _ => ?_) (fun _ _ _ _ _ => ?_)
  refine di_tup (by rfl) ?_
  refine de_fld (by rfl) (fun c => (T.cls c).cl) T.n_routes ?_
  refine de_var 1
  refine dg_name (i := 2) sc_side_routes.nd (by rfl) (by first | exact Or.inl (by rfl) | exact Or.inr (by rfl))
  refine dts_nil
  refine de_add (by rfl) ?_ ?_
  refine de_var 0
  refine de_var 2
  refine da_nil
theorem w_Tree_init (T : Txt K mg) {k : Nat} {c_is_tint : Con} {c_side_text : Con} {c_side_size : Con} {c_side_levels : Con} {c_side_routes : Con} {C : ConI}
    (G_is_tint : FnG P w K mg base k T.a_is_tint T.d_is_tint ["value"] (spD K T.cl c_is_tint))
    (G_side_text : FnG P w K mg base k T.a_side_text T.d_side_text ["side"] (spD K T.cl c_side_text))
    (G_side_size : FnG P w K mg base k T.a_side_size T.d_side_size ["side"] (spD K T.cl c_side_size))
    (G_side_levels : FnG P w K mg base k T.a_side_levels T.d_side_levels ["side"] (spD K T.cl c_side_levels))
    (G_side_routes : FnG P w K mg base k T.a_side_routes T.d_side_routes ["letter", "side"] (spD K T.cl c_side_routes))
    (hl : ∀ ds Q R, C ds Q R → ds.length + 1 = 4) (hC : ∀ y dx ds Q R, C ds Q R → (∀ e, ¬ R e) → t_Tree_init c_is_tint c_side_text c_side_size c_side_levels c_side_routes (conI y dx 0 Q R) (entryI 6 y dx 0 ds)) :
    FnG P w K mg base (k + 1) T.a_Tree_init T.d_Tree_init ["self", "tint", "left", "right"] (spI K T.cl 0 fun ds Q R => C ds Q R ∧ ∀ e, ¬ R e) := by
  refine okI T.x_Tree_init sc_Tree_init (by decide) hl fun cdv A outer s H E Ex hK hcl hG hr => ?_
  obtain ⟨K', cl', P0, H0, io⟩ := E
  obtain rfl : K' = K := hK
  obtain rfl : cl' = T.cl := hcl
  refine ⟨t_Tree_init c_is_tint c_side_text c_side_size c_side_levels c_side_routes, ?_, hC⟩
  unfold t_Tree_init
  refine ds_cons ?_ ?_
  refine d_if ?_ ?_ ?_
  refine dt_not ?_
  refine dt_tru (by rfl) ?_
  refine de_call (ks := []) hG G_is_tint (hr.mono (by omega)) (by rfl) T.m_is_tint T.k_is_tint T.b_is_tint_1 tkB ?_ ?_
  refine da_cons ?_ ?_
  refine de_var 1
  refine da_nil
  refine dk_nil
  refine ds_one ?_
  refine d_never
  refine ds_nil
  refine ds_cons ?_ ?_
  refine d_for (ts := [4]) (passes_of (by rfl)) (by rfl) ?_ ?_ ?_
  refine di_tup (by rfl) ?_
  refine de_tup ?_
  refine da_cons ?_ ?_
  refine de_var 2
  refine da_cons ?_ ?_
  refine de_var 3
  refine da_nil
  refine dg_name (i := 4) sc_Tree_init.nd (by rfl) (by first | exact Or.inl (by rfl) | exact Or.inr (by rfl))
  refine ds_one ?_
  refine d_if ?_ ?_ ?_
  refine PW.pt ?_
  refine dw_and ?_ ?_
  refine dt_notN ?_
  refine de_var 4
  refine dw_and1 ?_
  refine dt_not ?_
  refine dt_tru (by rfl) ?_
  refine de_isT T.it_Tree T.cls (by rfl) (by rfl) T.z_isinstance ?_ (pe_own (by rfl) T.m_Tree)
  refine de_var 4
  refine ds_one ?_
  refine d_never
  refine ds_nil
  refine ds_cons ?_ ?_
  refine d_self 0 (by rfl) (fun c => (T.cls c).cl) T.n_letter ?_
  refine de_var 1
  refine ds_cons ?_ ?_
  refine d_self 0 (by rfl) (fun c => (T.cls c).cl) T.n_first ?_
  refine de_var 2
  refine ds_cons ?_ ?_
  refine d_self 0 (by rfl) (fun c => (T.cls c).cl) T.n_second ?_
  refine de_var 3
  refine ds_cons ?_ ?_
  refine d_set 5 sc_Tree_init.nd (by rfl) (by first | exact Or.inl (by rfl) | exact Or.inr (by rfl)) ?_
  refine de_and ?_ ?_
  refine de_isN ?_
  refine de_var 2
  refine de_one ?_
  refine de_isN ?_
  refine de_var 3
  refine ds_cons ?_ ?_
  refine d_self 0 (by rfl) (fun c => (T.cls c).cl) T.n_line ?_
  refine de_if ?_ ?_ ?_
  refine dt_tru (by rfl) ?_
  refine de_var 5
  refine de_var 1
  refine de_joined ?_
  refine .cons ?_ ?_
  refine de_fmt ?_
  refine de_var 1
  refine .cons ?_ ?_
  refine de_str
  refine .cons ?_ ?_
  refine de_fmt ?_
  refine de_call (ks := []) hG G_side_text (hr.mono (by omega)) (by rfl) T.m_side_text T.k_side_text T.b_side_text_1 tkB ?_ ?_
  refine da_cons ?_ ?_
  refine de_var 2
  refine da_nil
  refine dk_nil
  refine .cons ?_ ?_
  refine de_str
  refine .cons ?_ ?_
  refine de_fmt ?_
  refine de_call (ks := []) hG G_side_text (hr.mono (by omega)) (by rfl) T.m_side_text T.k_side_text T.b_side_text_1 tkB ?_ ?_
  refine da_cons ?_ ?_
  refine de_var 3
  refine da_nil
  refine dk_nil
  refine .cons ?_ ?_
  refine de_str
  refine .nil
  refine ds_cons ?_ ?_
  refine d_self 0 (by rfl) (fun c => (T.cls c).cl) T.n_nodes ?_
  refine de_add (by rfl) ?_ ?_
  refine de_add (by rfl) ?_ ?_
  refine de_int
  refine de_call (ks := []) hG G_side_size (hr.mono (by omega)) (by rfl) T.m_side_size T.k_side_size T.b_side_size_1 tkB ?_ ?_
  refine da_cons ?_ ?_
  refine de_var 2
  refine da_nil
  refine dk_nil
  refine de_call (ks := []) hG G_side_size (hr.mono (by omega)) (by rfl) T.m_side_size T.k_side_size T.b_side_size_1 tkB ?_ ?_
  refine da_cons ?_ ?_
  refine de_var 3
  refine da_nil
  refine dk_nil
  refine ds_cons ?_ ?_
  refine d_self 0 (by rfl) (fun c => (T.cls c).cl) T.n_depth ?_
  refine de_add (by rfl) ?_ ?_
  refine de_int
  refine de_callB (cr_max (by rfl)) lk_maxL (by rfl) T.z_max (by rfl) ?_
  refine da_cons ?_ ?_
  refine de_fz ?_
  refine df_lst ?_
  refine da_cons ?_ ?_
  refine de_call (ks := []) hG G_side_levels (hr.mono (by omega)) (by rfl) T.m_side_levels T.k_side_levels T.b_side_levels_1 tkB ?_ ?_
  refine da_cons ?_ ?_
  refine de_var 2
  refine da_nil
  refine dk_nil
  refine da_cons ?_ ?_
  refine de_call (ks := []) hG G_side_levels (hr.mono (by omega)) (by rfl) T.m_side_levels T.k_side_levels T.b_side_levels_1 tkB ?_ ?_
  refine da_cons ?_ ?_
  refine de_var 3
  refine da_nil
  refine dk_nil
  refine da_nil
  refine da_nil
  refine ds_one ?_
  refine d_self 0 (by rfl) (fun c => (T.cls c).cl) T.n_routes ?_
  refine de_add (by rfl) ?_ ?_
  refine de_add (by rfl) ?_ ?_
  refine de_tup ?_
  refine da_cons ?_ ?_
  refine de_str
  refine da_nil
  refine de_call (ks := []) hG G_side_routes (hr.mono (by omega)) (by rfl) T.m_side_routes T.k_side_routes T.b_side_routes_2 tkB ?_ ?_
  refine da_cons ?_ ?_
  refine de_str
  refine da_cons ?_ ?_
  refine de_var 2
  refine da_nil
  refine dk_nil
  refine de_call (ks := []) hG G_side_routes (hr.mono (by omega)) (by rfl) T.m_side_routes T.k_side_routes T.b_side_routes_2 tkB ?_ ?_
  refine da_cons ?_ ?_
  refine de_str
  refine da_cons ?_ ?_
  refine de_var 3
  refine da_nil
  refine dk_nil
theorem w__law_named (T : Txt K mg) {k : Nat} {c_Tree_init : ConI} {c__law_named : Con} {C : Con}
    (G_Tree_init : FnG P w K mg base k T.a_Tree_init T.d_Tree_init ["self", "tint", "left", "right"] (spI K T.cl 0 c_Tree_init))
    (G__law_named : FnG P w K mg base k T.a__law_named T.d__law_named ["_law_bough_here"] (spD K T.cl c__law_named))
    (hl : ∀ ds Q R, C ds Q R → ds.length = 1) (hC : ∀ ds Q R, C ds Q R → t__law_named c_Tree_init c__law_named (conE Q R) (entry 1 ds)) :
    FnG P w K mg base (k + 1 + 1) T.a__law_named T.d__law_named ["_law_bough_here"] (spD K T.cl C) := by
  refine okD T.x__law_named sc__law_named (by decide) hl fun cdv A outer s H E Ex hK hcl hG hr => ?_
  obtain ⟨K', cl', P0, H0, io⟩ := E
  obtain rfl : K' = K := hK
  obtain rfl : cl' = T.cl := hcl
  refine ⟨t__law_named c_Tree_init c__law_named, ?_, hC⟩
  unfold t__law_named
  refine ds_cons ?_ ?_
  refine d_if ?_ ?_ ?_
  refine PW.pt ?_
  refine dw_and ?_ ?_
  refine dt_isN ?_
  refine de_ix (by rfl) ?_ ?_
  refine de_var 0
  refine de_int
  refine dw_and1 ?_
  refine dt_isN ?_
  refine de_ix (by rfl) ?_ ?_
  refine de_var 0
  refine de_int
  refine ds_one ?_
  refine d_ret ?_
  refine de_make0 (cn := 0) (ks := ["tint"]) hG T.k_Tree G_Tree_init (hr.mono (by omega)) (by rfl) T.m_Tree T.b_Tree_init_0_tint tkB ?_
  refine dk_cons ?_ ?_
  refine de_ix (by rfl) ?_ ?_
  refine de_var 0
  refine de_int
  refine dk_nil
  refine ds_nil
  refine ds_cons ?_ ?_
  refine d_if ?_ ?_ ?_
  refine dt_isN ?_
  refine de_ix (by rfl) ?_ ?_
  refine de_var 0
  refine de_int
  refine ds_one ?_
  refine d_ret ?_
  refine de_make (cn := 0) (ks := []) hG T.k_Tree G_Tree_init (hr.mono (by omega)) (by rfl) T.m_Tree T.b_Tree_init_2 tkB ?_ ?_
  refine da_cons ?_ ?_
  refine de_ix (by rfl) ?_ ?_
  refine de_var 0
  refine de_int
  refine da_cons ?_ ?_
  refine de_call (ks := []) hG G__law_named (hr.mono (by omega)) (by rfl) T.m__law_named T.k__law_named T.b__law_named_1 tkB ?_ ?_
  refine da_cons ?_ ?_
  refine de_ix (by rfl) ?_ ?_
  refine de_var 0
  refine de_int
  refine da_nil
  refine dk_nil
  refine da_nil
  refine dk_nil
  refine ds_nil
  refine ds_cons ?_ ?_
  refine d_if ?_ ?_ ?_
  refine dt_isN ?_
  refine de_ix (by rfl) ?_ ?_
  refine de_var 0
  refine de_int
  refine ds_one ?_
  refine d_ret ?_
  refine de_make (cn := 0) (ks := ["right"]) hG T.k_Tree G_Tree_init (hr.mono (by omega)) (by rfl) T.m_Tree T.b_Tree_init_1_right tkB ?_ ?_
  refine da_cons ?_ ?_
  refine de_ix (by rfl) ?_ ?_
  refine de_var 0
  refine de_int
  refine da_nil
  refine dk_cons ?_ ?_
  refine de_call (ks := []) hG G__law_named (hr.mono (by omega)) (by rfl) T.m__law_named T.k__law_named T.b__law_named_1 tkB ?_ ?_
  refine da_cons ?_ ?_
  refine de_ix (by rfl) ?_ ?_
  refine de_var 0
  refine de_int
  refine da_nil
  refine dk_nil
  refine dk_nil
  refine ds_nil
  refine ds_one ?_
  refine d_ret ?_
  refine de_make0 (cn := 0) (ks := ["right", "left", "tint"]) hG T.k_Tree G_Tree_init (hr.mono (by omega)) (by rfl) T.m_Tree T.b_Tree_init_0_right_left_tint tkB ?_
  refine dk_cons ?_ ?_
  refine de_call (ks := []) hG G__law_named (hr.mono (by omega)) (by rfl) T.m__law_named T.k__law_named T.b__law_named_1 tkB ?_ ?_
  refine da_cons ?_ ?_
  refine de_ix (by rfl) ?_ ?_
  refine de_var 0
  refine de_int
  refine da_nil
  refine dk_nil
  refine dk_cons ?_ ?_
  refine de_call (ks := []) hG G__law_named (hr.mono (by omega)) (by rfl) T.m__law_named T.k__law_named T.b__law_named_1 tkB ?_ ?_
  refine da_cons ?_ ?_
  refine de_ix (by rfl) ?_ ?_
  refine de_var 0
  refine de_int
  refine da_nil
  refine dk_nil
  refine dk_cons ?_ ?_
  refine de_ix (by rfl) ?_ ?_
  refine de_var 0
  refine de_int
  refine dk_nil
theorem w__law_grown (T : Txt K mg) {k : Nat} {c_Tree_init : ConI} {c__law_grown : Con} {C : Con}
    (G_Tree_init : FnG P w K mg base k T.a_Tree_init T.d_Tree_init ["self", "tint", "left", "right"] (spI K T.cl 0 c_Tree_init))
    (G__law_grown : FnG P w K mg base k T.a__law_grown T.d__law_grown ["_law_bough_here"] (spD K T.cl c__law_grown))
    (hl : ∀ ds Q R, C ds Q R → ds.length = 1) (hC : ∀ ds Q R, C ds Q R → t__law_grown c_Tree_init c__law_grown (conE Q R) (entry 1 ds)) :
    FnG P w K mg base (k + 1 + 1) T.a__law_grown T.d__law_grown ["_law_bough_here"] (spD K T.cl C) := by
  refine okD T.x__law_grown sc__law_grown (by decide) hl fun cdv A outer s H E Ex hK hcl hG hr => ?_
  obtain ⟨K', cl', P0, H0, io⟩ := E
  obtain rfl : K' = K := hK
  obtain rfl : cl' = T.cl := hcl
  refine ⟨t__law_grown c_Tree_init c__law_grown, ?_, hC⟩
  unfold t__law_grown
  refine ds_cons ?_ ?_
  refine d_if ?_ ?_ ?_
  refine dt_isN ?_
  refine de_var 0
  refine ds_one ?_
  refine d_ret ?_
  refine de_non
  refine ds_nil
  refine ds_one ?_
  refine d_ret ?_
  refine de_make (cn := 0) (ks := []) hG T.k_Tree G_Tree_init (hr.mono (by omega)) (by rfl) T.m_Tree T.b_Tree_init_3 tkB ?_ ?_
  refine da_cons ?_ ?_
  refine de_ix (by rfl) ?_ ?_
  refine de_var 0
  refine de_int
  refine da_cons ?_ ?_
  refine de_call (ks := []) hG G__law_grown (hr.mono (by omega)) (by rfl) T.m__law_grown T.k__law_grown T.b__law_grown_1 tkB ?_ ?_
  refine da_cons ?_ ?_
  refine de_ix (by rfl) ?_ ?_
  refine de_var 0
  refine de_int
  refine da_nil
  refine dk_nil
  refine da_cons ?_ ?_
  refine de_call (ks := []) hG G__law_grown (hr.mono (by omega)) (by rfl) T.m__law_grown T.k__law_grown T.b__law_grown_1 tkB ?_ ?_
  refine da_cons ?_ ?_
  refine de_ix (by rfl) ?_ ?_
  refine de_var 0
  refine de_int
  refine da_nil
  refine dk_nil
  refine da_nil
  refine dk_nil
theorem w__law_right (T : Txt K mg) {k : Nat} {c__law_colours : Con} {c__law_pull : Con} {c__law_bough : Con} {c__law_is : Con} {c__law_named : Con} {c__law_grown : Con} {C : Con}
    (G__law_colours : FnG P w K mg base k T.a__law_colours T.d__law_colours ["_law_stock_here", "_law_size"] (spD K T.cl c__law_colours))
    (G__law_pull : FnG P w K mg base k T.a__law_pull T.d__law_pull ["_law_stock_here", "_law_top"] (spD K T.cl c__law_pull))
    (G__law_bough : FnG P w K mg base k T.a__law_bough T.d__law_bough ["_law_stock_here", "_law_colours_here", "_law_room"] (spD K T.cl c__law_bough))
    (G__law_is : FnG P w K mg base k T.a__law_is T.d__law_is ["_law_mine", "_law_bough_here"] (spD K T.cl c__law_is))
    (G__law_named : FnG P w K mg base k T.a__law_named T.d__law_named ["_law_bough_here"] (spD K T.cl c__law_named))
    (G__law_grown : FnG P w K mg base k T.a__law_grown T.d__law_grown ["_law_bough_here"] (spD K T.cl c__law_grown))
    (hl : ∀ ds Q R, C ds Q R → ds.length = 1) (hC : ∀ ds Q R, C ds Q R → t__law_right c__law_colours c__law_pull c__law_bough c__law_is c__law_named c__law_grown (conE Q R) (entry 3 ds)) :
    FnG P w K mg base (k + 1) T.a__law_right T.d__law_right ["_law_stock_here"] (spD K T.cl C) := by
  refine okD T.x__law_right sc__law_right (by decide) hl fun cdv A outer s H E Ex hK hcl hG hr => ?_
  obtain ⟨K', cl', P0, H0, io⟩ := E
  obtain rfl : K' = K := hK
  obtain rfl : cl' = T.cl := hcl
  refine ⟨t__law_right c__law_colours c__law_pull c__law_bough c__law_is c__law_named c__law_grown, ?_, hC⟩
  unfold t__law_right
  refine ds_cons ?_ ?_
  refine d_set 1 sc__law_right.nd (by rfl) (by first | exact Or.inl (by rfl) | exact Or.inr (by rfl)) ?_
  refine de_call (ks := []) hG G__law_colours (hr.mono (by omega)) (by rfl) T.m__law_colours T.k__law_colours T.b__law_colours_2 tkB ?_ ?_
  refine da_cons ?_ ?_
  refine de_var 0
  refine da_cons ?_ ?_
  refine de_add (by rfl) ?_ ?_
  refine de_int
  refine de_call (ks := []) hG G__law_pull (hr.mono (by omega)) (by rfl) T.m__law_pull T.k__law_pull T.b__law_pull_2 tkB ?_ ?_
  refine da_cons ?_ ?_
  refine de_var 0
  refine da_cons ?_ ?_
  refine de_int
  refine da_nil
  refine dk_nil
  refine da_nil
  refine dk_nil
  refine ds_cons ?_ ?_
  refine d_set 2 sc__law_right.nd (by rfl) (by first | exact Or.inl (by rfl) | exact Or.inr (by rfl)) ?_
  refine de_call (ks := []) hG G__law_bough (hr.mono (by omega)) (by rfl) T.m__law_bough T.k__law_bough T.b__law_bough_3 tkB ?_ ?_
  refine da_cons ?_ ?_
  refine de_var 0
  refine da_cons ?_ ?_
  refine de_var 1
  refine da_cons ?_ ?_
  refine de_add (by rfl) ?_ ?_
  refine de_int
  refine de_call (ks := []) hG G__law_pull (hr.mono (by omega)) (by rfl) T.m__law_pull T.k__law_pull T.b__law_pull_2 tkB ?_ ?_
  refine da_cons ?_ ?_
  refine de_var 0
  refine da_cons ?_ ?_
  refine de_int
  refine da_nil
  refine dk_nil
  refine da_nil
  refine dk_nil
  refine ds_one ?_
  refine d_ret ?_
  refine de_and ?_ ?_
  refine de_call (ks := []) hG G__law_is (hr.mono (by omega)) (by rfl) T.m__law_is T.k__law_is T.b__law_is_2 tkB ?_ ?_
  refine da_cons ?_ ?_
  refine de_call (ks := []) hG G__law_grown (hr.mono (by omega)) (by rfl) T.m__law_grown T.k__law_grown T.b__law_grown_1 tkB ?_ ?_
  refine da_cons ?_ ?_
  refine de_var 2
  refine da_nil
  refine dk_nil
  refine da_cons ?_ ?_
  refine de_var 2
  refine da_nil
  refine dk_nil
  refine de_one ?_
  refine de_call (ks := []) hG G__law_is (hr.mono (by omega)) (by rfl) T.m__law_is T.k__law_is T.b__law_is_2 tkB ?_ ?_
  refine da_cons ?_ ?_
  refine de_call (ks := []) hG G__law_named (hr.mono (by omega)) (by rfl) T.m__law_named T.k__law_named T.b__law_named_1 tkB ?_ ?_
  refine da_cons ?_ ?_
  refine de_var 2
  refine da_nil
  refine dk_nil
  refine da_cons ?_ ?_
  refine de_var 2
  refine da_nil
  refine dk_nil
theorem w__law_stock (T : Txt K mg) {k : Nat} {C : Con}
    (hl : ∀ ds Q R, C ds Q R → ds.length = 2) (hC : ∀ ds Q R, C ds Q R → t__law_stock (conE Q R) (entry 5 ds)) :
    FnG P w K mg base (k + 1) T.a__law_stock T.d__law_stock ["_law_cells", "_law_turn"] (spD K T.cl C) := by
  refine okD T.x__law_stock sc__law_stock (by decide) hl fun cdv A outer s H E Ex hK hcl hG hr => ?_
  obtain ⟨K', cl', P0, H0, io⟩ := E
  obtain rfl : K' = K := hK
  obtain rfl : cl' = T.cl := hcl
  refine ⟨t__law_stock, ?_, hC⟩
  unfold t__law_stock
  refine ds_cons ?_ ?_
  refine d_set 2 sc__law_stock.nd (by rfl) (by first | exact Or.inl (by rfl) | exact Or.inr (by rfl)) ?_
  refine de_if ?_ ?_ ?_
  refine dt_cmp op_lt (lk_B2 _) ?_ ?_ (nomark _)
  refine de_var 1
  refine de_callB (cLen (by rfl)) lk_len (by rfl) T.z_len (by rfl) ?_
  refine da_cons ?_ ?_
  refine de_var 0
  refine da_nil
  refine de_ix (by rfl) ?_ ?_
  refine de_var 0
  refine de_var 1
  refine de_add (by rfl) ?_ ?_
  refine de_mul ?_ ?_
  refine de_int
  refine de_var 1
  refine de_int
  refine ds_cons ?_ ?_
  refine d_set 3 sc__law_stock.nd (by rfl) (by first | exact Or.inl (by rfl) | exact Or.inr (by rfl)) ?_
  refine de_add (by rfl) ?_ ?_
  refine de_int
  refine de_mul ?_ ?_
  refine de_int
  refine de_var 1
  refine ds_cons ?_ ?_
  refine d_for (ts := [4]) (passes_of (by rfl)) (by rfl) ?_ ?_ ?_
  refine di_list (by rfl) ?_
  refine de_add (by rfl) ?_ ?_
  refine de_slice (by rfl) ?_ ?_ ?_
  refine de_var 0
  refine do_none
  refine do_some ?_
  refine de_int
  refine de_fz ?_
  refine df_lst ?_
  refine da_cons ?_ ?_
  refine de_var 2
  refine da_nil
  refine dg_name (i := 4) sc__law_stock.nd (by rfl) (by first | exact Or.inl (by rfl) | exact Or.inr (by rfl))
  refine ds_one ?_
  refine d_set 3 sc__law_stock.nd (by rfl) (by first | exact Or.inl (by rfl) | exact Or.inr (by rfl)) ?_
  refine de_mod ?_ ?_
  refine de_callTy (call_int1) lk_int (by rfl) T.z_int (by rfl) ?_
  refine da_cons ?_ ?_
  refine de_add (by rfl) ?_ ?_
  refine de_mul ?_ ?_
  refine de_var 3
  refine de_int
  refine de_var 4
  refine da_nil
  refine de_int
  refine ds_one ?_
  refine d_ret ?_
  refine de_mkStk ?_
  refine da_cons ?_ ?_
  refine de_if ?_ ?_ ?_
  refine PW.pt ?_
  refine dw_or ?_ ?_
  refine dt_cmp op_lt (lk_B2 _) ?_ ?_ (nomark _)
  refine de_var 2
  refine de_int
  refine dw_or1 ?_
  refine dt_cmp op_ge (lk_B2 _) ?_ ?_ (nomark _)
  refine de_var 2
  refine de_pow ?_ ?_
  refine de_int
  refine de_int
  refine de_callB (call_abs) lk_abs (by rfl) T.z_abs (by rfl) ?_
  refine da_cons ?_ ?_
  refine de_var 2
  refine da_nil
  refine de_int
  refine da_cons ?_ ?_
  refine de_var 3
  refine da_cons ?_ ?_
  refine de_int
  refine da_nil
theorem w_law (T : Txt K mg) {k : Nat} {c__law_right : Con} {c__law_stock : Con} {C : Con}
    (G__law_right : FnG P w K mg base k T.a__law_right T.d__law_right ["_law_stock_here"] (spD K T.cl c__law_right))
    (G__law_stock : FnG P w K mg base k T.a__law_stock T.d__law_stock ["_law_cells", "_law_turn"] (spD K T.cl c__law_stock))
    (hl : ∀ ds Q R, C ds Q R → ds.length = 1) (hC : ∀ ds Q R, C ds Q R → t_law c__law_right c__law_stock (conE Q R) (entry 2 ds)) :
    FnG P w K mg base (k + 1) T.a_law T.d_law ["_law_cells"] (spD K T.cl C) := by
  refine okD T.x_law sc_law (by decide) hl fun cdv A outer s H E Ex hK hcl hG hr => ?_
  obtain ⟨K', cl', P0, H0, io⟩ := E
  obtain rfl : K' = K := hK
  obtain rfl : cl' = T.cl := hcl
  refine ⟨t_law c__law_right c__law_stock, ?_, hC⟩
  unfold t_law
  refine ds_one ?_
  refine d_ret ?_
  refine de_callB (cr_all (by rfl)) lk_all (by rfl) T.z_all (by rfl) ?_
  refine da_cons ?_ ?_
  refine de_fz ?_
  refine df_lc (ts := [1]) (by rfl) sc_law.nd (by decide) ?_ (blkOk_by (own := [("_law_turn", 1)]) (by show blkC ["_law_cells", "_law_turn"] (defScope s_law) _ _ = true; decide +kernel)) (fun _ _ _ _ _ => ?_) (fun _ _ _ _ _ => ?_) (fun _ _ _ _ _ => ?_)
  refine di_range1 (by rfl) T.z_range ?_
  refine da_cons ?_ ?_
  refine de_callB (call_max2 (by rfl)) lk_max2 (by rfl) T.z_max (by rfl) ?_
  refine da_cons ?_ ?_
  refine de_int
  refine da_cons ?_ ?_
  refine de_callB (call_min2 (by rfl)) lk_min2 (by rfl) T.z_min (by rfl) ?_
  refine da_cons ?_ ?_
  refine de_callB (cLen (by rfl)) lk_len (by rfl) T.z_len (by rfl) ?_
  refine da_cons ?_ ?_
  refine de_var 0
  refine da_nil
  refine da_cons ?_ ?_
  refine de_int
  refine da_nil
  refine da_nil
  refine da_nil
  refine dg_name (i := 1) sc_law.nd (by rfl) (by first | exact Or.inl (by rfl) | exact Or.inr (by rfl))
  refine dts_nil
  refine de_call (ks := []) hG G__law_right (hr.mono (by omega)) (by rfl) T.m__law_right T.k__law_right T.b__law_right_1 takes0 ?_ ?_
  refine da_cons ?_ ?_
  refine de_call (ks := []) hG G__law_stock (hr.mono (by omega)) (by rfl) T.m__law_stock T.k__law_stock T.b__law_stock_2 takes0 ?_ ?_
  refine da_cons ?_ ?_
  refine de_var 0
  refine da_cons ?_ ?_
  refine de_var 1
  refine da_nil
  refine dk_nil
  refine da_nil
  refine dk_nil
  refine da_nil
end
end K01

namespace K01
open PySem L2 DL PySem.Calls
section
variable {P : Program} {w : World} {K : PySem.W.Frag} {mg : Str → Option Value} {base : Heap}
theorem g_never {f : Addr} {fd : FuncData} {ps : List Str} {cl : Nat → Addr} (k : Nat) : FnG P w K mg base k f fd ps (spD K cl c0) := ok_never fun _ _ _ z => z
theorem G_pull (T : Txt K mg) : FnG P w K mg base 1 T.a__law_pull T.d__law_pull ["_law_stock_here", "_law_top"] (spD K T.cl cPull) :=
  w__law_pull (k := 0) T (fun ds Q R ⟨_, h, _⟩ => by rw [h]; rfl) p_pull
theorem G_pick (T : Txt K mg) : FnG P w K mg base 2 T.a__law_pick T.d__law_pick ["_law_stock_here", "_law_menu"] (spD K T.cl cPick) :=
  w__law_pick (k := 1) T (G_pull T) (fun ds Q R ⟨_, _, h, _⟩ => by rw [h]; rfl) p_pick
theorem G_col (T : Txt K mg) : FnG P w K mg base 2 T.a__law_colours T.d__law_colours ["_law_stock_here", "_law_size"] (spD K T.cl cCol) :=
  w__law_colours (k := 1) T (G_pull T) (fun ds Q R ⟨_, h, _⟩ => by rw [h]; rfl) p_colours
theorem G_bough (T : Txt K mg) : ∀ n, FnG P w K mg base (n + 3) T.a__law_bough T.d__law_bough ["_law_stock_here", "_law_colours_here", "_law_room"] (spD K T.cl (cBough n))
  | 0 => w__law_bough (k := 2) T ((G_pull T).mono (by omega)) (G_pick T) (g_never 2) (fun ds Q R ⟨_, _, h, _⟩ => by rw [h]; rfl) (p_bough 0)
  | n + 1 => w__law_bough (k := n + 3) T ((G_pull T).mono (by omega)) ((G_pick T).mono (by omega)) (G_bough T n) (fun ds Q R ⟨_, _, h, _⟩ => by rw [h]; rfl) (p_bough (n + 1))
theorem G_shape (T : Txt K mg) : ∀ n, FnG P w K mg base (n + 1) T.a__law_shape T.d__law_shape ["_law_bough_here"] (spD K T.cl (cShape n))
  | 0 => w__law_shape (k := 0) T (g_never 0) (fun ds Q R ⟨_, h, _⟩ => by rw [h]; rfl) (p_shape 0)
  | n + 1 => w__law_shape (k := n + 1) T (G_shape T n) (fun ds Q R ⟨_, h, _⟩ => by rw [h]; rfl) (p_shape (n + 1))
theorem G_line (T : Txt K mg) : ∀ n, FnG P w K mg base (n + 1) T.a__law_line T.d__law_line ["_law_bough_here"] (spD K T.cl (cLine n))
  | 0 => w__law_line (k := 0) T (g_never 0) (fun ds Q R ⟨_, h, _⟩ => by rw [h]; rfl) (p_line 0)
  | n + 1 => w__law_line (k := n + 1) T (G_line T n) (fun ds Q R ⟨_, h, _⟩ => by rw [h]; rfl) (p_line (n + 1))
theorem G_spots (T : Txt K mg) : ∀ n, FnG P w K mg base (n + 1) T.a__law_spots T.d__law_spots ["_law_bough_here", "_law_way_down"] (spD K T.cl (cSpots n))
  | 0 => w__law_spots (k := 0) T (g_never 0) (fun ds Q R ⟨_, _, h, _⟩ => by rw [h]; rfl) (p_spots 0)
  | n + 1 => w__law_spots (k := n + 1) T (G_spots T n) (fun ds Q R ⟨_, _, h, _⟩ => by rw [h]; rfl) (p_spots (n + 1))
theorem G_is (T : Txt K mg) : ∀ n, FnG P w K mg base (3 * n + 68) T.a__law_is T.d__law_is ["_law_mine", "_law_bough_here"] (spD K T.cl (cIs n))
  | 0 => w__law_is (k := 65) T (G_shape T 64) ((w_Tree_repr (k := 0) T (fun ds Q R ⟨_, h, _⟩ => by rw [h]; rfl) p_repr).mono (by omega)) ((w_Tree_str (k := 0) T (fun ds Q R ⟨_, h, _⟩ => by rw [h]; rfl) p_str).mono (by omega))
      ((w_Tree_paths (k := 0) T (fun ds Q R ⟨_, h, _⟩ => by rw [h]; rfl) p_paths).mono (by omega)) ((w_Tree_levels (k := 0) T (fun ds Q R ⟨_, h, _⟩ => by rw [h]; rfl) p_levels).mono (by omega)) ((w_Tree_size (k := 0) T (fun ds Q R ⟨_, h, _⟩ => by rw [h]; rfl) p_size).mono (by omega))
      ((w_Tree_tint (k := 0) T (fun ds Q R ⟨_, h, _⟩ => by rw [h]; rfl) p_tint).mono (by omega)) (G_line T 64) (G_spots T 64) (g_never 65) ((w_Tree_right (k := 0) T (fun ds Q R ⟨_, h, _⟩ => by rw [h]; rfl) p_right).mono (by omega)) ((w_Tree_left (k := 0) T (fun ds Q R ⟨_, h, _⟩ => by rw [h]; rfl) p_left).mono (by omega))
      (fun ds Q R ⟨_, h, _⟩ => by rw [h]; rfl) (p_is 0)
  | n + 1 => w__law_is (k := 3 * n + 68) T ((G_shape T 64).mono (by omega)) ((w_Tree_repr (k := 0) T (fun ds Q R ⟨_, h, _⟩ => by rw [h]; rfl) p_repr).mono (by omega)) ((w_Tree_str (k := 0) T (fun ds Q R ⟨_, h, _⟩ => by rw [h]; rfl) p_str).mono (by omega))
      ((w_Tree_paths (k := 0) T (fun ds Q R ⟨_, h, _⟩ => by rw [h]; rfl) p_paths).mono (by omega)) ((w_Tree_levels (k := 0) T (fun ds Q R ⟨_, h, _⟩ => by rw [h]; rfl) p_levels).mono (by omega)) ((w_Tree_size (k := 0) T (fun ds Q R ⟨_, h, _⟩ => by rw [h]; rfl) p_size).mono (by omega))
      ((w_Tree_tint (k := 0) T (fun ds Q R ⟨_, h, _⟩ => by rw [h]; rfl) p_tint).mono (by omega)) ((G_line T 64).mono (by omega)) ((G_spots T 64).mono (by omega)) (G_is T n) ((w_Tree_right (k := 0) T (fun ds Q R ⟨_, h, _⟩ => by rw [h]; rfl) p_right).mono (by omega)) ((w_Tree_left (k := 0) T (fun ds Q R ⟨_, h, _⟩ => by rw [h]; rfl) p_left).mono (by omega))
      (fun ds Q R ⟨_, h, _⟩ => by rw [h]; rfl) (p_is (n + 1))
theorem noR {cl : Nat → Addr} {c k : Nat} {C : ConI} {f : Addr} {fd : FuncData} {ps : List Str} (F : FnG P w K mg base k f fd ps (spI K cl c fun ds Q R => C ds Q R ∧ ∀ e, ¬ R e)) (h : ∀ ds Q R, C ds Q R → C ds Q fun _ => False) : FnG P w K mg base k f fd ps (spI K cl c C) :=
  F.imp fun vs H Q E ⟨x, dx, vs', P, ds, Qd, Xd, e, h1, h2, h3, h4, hc, h5, _⟩ => ⟨x, dx, vs', P, ds, Qd, fun _ => False, e, h1, h2, h3, h4, ⟨h _ _ _ hc, fun _ z => z⟩, h5, fun _ _ _ _ _ _ _ _ z => z.elim⟩
theorem G_init (T : Txt K mg) : FnG P w K mg base 2 T.a_Tree_init T.d_Tree_init ["self", "tint", "left", "right"] (spI K T.cl 0 cInit) :=
  noR (w_Tree_init (k := 1) T (w_is_tint (k := 0) T (fun ds Q R ⟨_, h, _⟩ => by rw [h]; rfl) p_is_tint) (w_side_text (k := 0) T (fun ds Q R ⟨_, h, _⟩ => by rw [h]; rfl) p_side_text) (w_side_size (k := 0) T (fun ds Q R ⟨_, h, _⟩ => by rw [h]; rfl) p_side_size)
    (w_side_levels (k := 0) T (fun ds Q R ⟨_, h, _⟩ => by rw [h]; rfl) p_side_levels) (w_side_routes (k := 0) T (fun ds Q R ⟨_, _, h, _⟩ => by rw [h]; rfl) p_side_routes) (fun ds Q R ⟨_, _, _, h, _⟩ => by rw [h]; rfl) p_init) fun ds Q R h => h
theorem G_grown (T : Txt K mg) : ∀ n, FnG P w K mg base (2 * n + 4) T.a__law_grown T.d__law_grown ["_law_bough_here"] (spD K T.cl (cGrown n))
  | 0 => w__law_grown (k := 2) T (G_init T) (g_never 2) (fun ds Q R ⟨_, h, _⟩ => by rw [h]; rfl) (p_grown 0)
  | n + 1 => w__law_grown (k := 2 * n + 4) T ((G_init T).mono (by omega)) (G_grown T n) (fun ds Q R ⟨_, h, _⟩ => by rw [h]; rfl) (p_grown (n + 1))
theorem G_named (T : Txt K mg) : ∀ n, FnG P w K mg base (2 * n + 4) T.a__law_named T.d__law_named ["_law_bough_here"] (spD K T.cl (cNamed n))
  | 0 => w__law_named (k := 2) T (G_init T) (g_never 2) (fun ds Q R ⟨_, h, _⟩ => by rw [h]; rfl) (p_named 0)
  | n + 1 => w__law_named (k := 2 * n + 4) T ((G_init T).mono (by omega)) (G_named T n) (fun ds Q R ⟨_, h, _⟩ => by rw [h]; rfl) (p_named (n + 1))
theorem G_right (T : Txt K mg) : FnG P w K mg base 189 T.a__law_right T.d__law_right ["_law_stock_here"] (spD K T.cl cRight) :=
  w__law_right (k := 188) T ((G_col T).mono (by omega)) ((G_pull T).mono (by omega)) ((G_bough T 40).mono (by omega)) ((G_is T 40).mono (by omega)) ((G_named T 40).mono (by omega)) ((G_grown T 40).mono (by omega)) (fun ds Q R ⟨h, _⟩ => by rw [h]; rfl) q_right
theorem ok_law (T : Txt K mg) : FnG P w K mg base 190 T.a_law T.d_law ["_law_cells"] (spD K T.cl (cLaw 63)) :=
  w_law (k := 189) T (G_right T) ((w__law_stock (k := 0) T (fun ds Q R ⟨_, _, h, _⟩ => by rw [h]; rfl) p_stock).mono (by omega)) (fun ds Q R ⟨_, h, _⟩ => by rw [h]; rfl) p_law
end
end K01

namespace K01
open PySem L2 DL PySem.Calls
theorem all_mk {l : PySem.W.OpenLaw} {w : World} {K : PySem.W.Frag} {h : Heap} {mg : Str → Option Value} {fa : Addr} {C_Tree f__law_pull f__law_colours f__law_pick f__law_bough f__law_shape f_Tree_repr f_Tree_str f_Tree_paths pp_Tree_paths f_Tree_levels pp_Tree_levels f_Tree_size pp_Tree_size f_Tree_tint pp_Tree_tint f__law_line f__law_spots f_Tree_right pp_Tree_right f_Tree_left pp_Tree_left f__law_is f_is_tint f_side_text f_side_size f_side_levels f_side_routes f_Tree_init dT_Tree_init f__law_named f__law_grown f__law_right f__law_stock f_law : Addr} {gt_LETTERS : Tok}
    {od__law_pull an__law_pull od__law_colours an__law_colours od__law_pick an__law_pick od__law_bough an__law_bough od__law_shape an__law_shape od_Tree_repr an_Tree_repr od_Tree_str an_Tree_str od_Tree_paths an_Tree_paths od_Tree_levels an_Tree_levels od_Tree_size an_Tree_size od_Tree_tint an_Tree_tint od__law_line an__law_line od__law_spots an__law_spots od_Tree_right an_Tree_right od_Tree_left an_Tree_left od__law_is an__law_is od_is_tint an_is_tint od_side_text an_side_text od_side_size an_side_size od_side_levels an_side_levels od_side_routes an_side_routes od_Tree_init an_Tree_init od__law_named an__law_named od__law_grown an__law_grown od__law_right an__law_right od__law_stock an__law_stock od_law an_law : Option Addr} {sl__law_pull sl__law_colours sl__law_pick sl__law_bough sl__law_shape sl_Tree_repr sl_Tree_str sl_Tree_paths sl_Tree_levels sl_Tree_size sl_Tree_tint sl__law_line sl__law_spots sl_Tree_right sl_Tree_left sl__law_is sl_is_tint sl_side_text sl_side_size sl_side_levels sl_side_routes sl_Tree_init sl__law_named sl__law_grown sl__law_right sl__law_stock sl_law : Array (Option Value)} {oc__law_pull kV__law_pull dc__law_pull pm__law_pull cd__law_pull ct__law_pull oc__law_colours kV__law_colours dc__law_colours pm__law_colours cd__law_colours ct__law_colours oc__law_pick kV__law_pick dc__law_pick pm__law_pick cd__law_pick ct__law_pick oc__law_bough kV__law_bough dc__law_bough pm__law_bough cd__law_bough ct__law_bough oc__law_shape kV__law_shape dc__law_shape pm__law_shape cd__law_shape ct__law_shape oc_Tree_repr kV_Tree_repr dc_Tree_repr pm_Tree_repr cd_Tree_repr ct_Tree_repr oc_Tree_str kV_Tree_str dc_Tree_str pm_Tree_str cd_Tree_str ct_Tree_str oc_Tree_paths kV_Tree_paths dc_Tree_paths pm_Tree_paths cd_Tree_paths ct_Tree_paths oc_Tree_levels kV_Tree_levels dc_Tree_levels pm_Tree_levels cd_Tree_levels ct_Tree_levels oc_Tree_size kV_Tree_size dc_Tree_size pm_Tree_size cd_Tree_size ct_Tree_size oc_Tree_tint kV_Tree_tint dc_Tree_tint pm_Tree_tint cd_Tree_tint ct_Tree_tint oc__law_line kV__law_line dc__law_line pm__law_line cd__law_line ct__law_line oc__law_spots kV__law_spots dc__law_spots pm__law_spots cd__law_spots ct__law_spots oc_Tree_right kV_Tree_right dc_Tree_right pm_Tree_right cd_Tree_right ct_Tree_right oc_Tree_left kV_Tree_left dc_Tree_left pm_Tree_left cd_Tree_left ct_Tree_left oc__law_is kV__law_is dc__law_is pm__law_is cd__law_is ct__law_is oc_is_tint kV_is_tint dc_is_tint pm_is_tint cd_is_tint ct_is_tint oc_side_text kV_side_text dc_side_text pm_side_text cd_side_text ct_side_text oc_side_size kV_side_size dc_side_size pm_side_size cd_side_size ct_side_size oc_side_levels kV_side_levels dc_side_levels pm_side_levels cd_side_levels ct_side_levels oc_side_routes kV_side_routes dc_side_routes pm_side_routes cd_side_routes ct_side_routes oc_Tree_init kV_Tree_init dc_Tree_init pm_Tree_init cd_Tree_init ct_Tree_init oc__law_named kV__law_named dc__law_named pm__law_named cd__law_named ct__law_named oc__law_grown kV__law_grown dc__law_grown pm__law_grown cd__law_grown ct__law_grown oc__law_right kV__law_right dc__law_right pm__law_right cd__law_right ct__law_right oc__law_stock kV__law_stock dc__law_stock pm__law_stock cd__law_stock ct__law_stock oc_law kV_law dc_law pm_law cd_law ct_law : Value}
    {rest_Tree_paths rest_Tree_levels rest_Tree_size rest_Tree_tint rest_Tree_right rest_Tree_left : List Value}
    {oT_Tree_init : Obj} {nT_Tree_init : Nat}
    (X : K.In h) (G : h.Ns mainGlobals mg) (hfa : mg "law" = some (.ref fa))
    (ns_Tree : PySem.W.nsIn K mainGlobals "Tree" = some (some (.ref C_Tree)))
    (pg_Tree : PySem.W.plainGet K C_Tree Str.empty = true)
    (hd_Tree : PySem.W.hasDictIn K C_Tree = true)
    (po_Tree : PySem.W.plainOver K C_Tree = true)
    (sa_Tree : PySem.W.findIn K (.ref C_Tree) "__setattr__" = some (some (.builtin "object.__setattr__")))
    (ia_Tree : PySem.W.findIn K (.ref C_Tree) "__class__" = some (some (.builtin "object.__class__")))
    (im_Tree : PySem.W.mroIn K C_Tree (.type "object") = some true)
    (in_ : PySem.W.specialIn K (.builtin "object.__class__") "__get__" = some (some (.builtin "getset_descriptor.__get__")))
    (it_ : PySem.W.takesIn K (.builtin "object.__class__") = some true)
    (ns__law_pull : PySem.W.nsIn K mainGlobals "_law_pull" = some (some (.ref f__law_pull)))
    (l__law_pull : K.lookup f__law_pull = some ⟨oc__law_pull, od__law_pull, .func (PySem.W.fnOf "_law_pull" "_law_pull" (defArgs s__law_pull) (defBody s__law_pull) (defScope s__law_pull) .none kV__law_pull dc__law_pull pm__law_pull an__law_pull cd__law_pull ct__law_pull), sl__law_pull⟩)
    (c__law_pull : PySem.W.codeIn K cd__law_pull "_law_pull" = true)
    (kp__law_pull : PySem.W.keepIn K (.ref f__law_pull) = true)
    (ns__law_colours : PySem.W.nsIn K mainGlobals "_law_colours" = some (some (.ref f__law_colours)))
    (l__law_colours : K.lookup f__law_colours = some ⟨oc__law_colours, od__law_colours, .func (PySem.W.fnOf "_law_colours" "_law_colours" (defArgs s__law_colours) (defBody s__law_colours) (defScope s__law_colours) .none kV__law_colours dc__law_colours pm__law_colours an__law_colours cd__law_colours ct__law_colours), sl__law_colours⟩)
    (c__law_colours : PySem.W.codeIn K cd__law_colours "_law_colours" = true)
    (kp__law_colours : PySem.W.keepIn K (.ref f__law_colours) = true)
    (ns__law_pick : PySem.W.nsIn K mainGlobals "_law_pick" = some (some (.ref f__law_pick)))
    (l__law_pick : K.lookup f__law_pick = some ⟨oc__law_pick, od__law_pick, .func (PySem.W.fnOf "_law_pick" "_law_pick" (defArgs s__law_pick) (defBody s__law_pick) (defScope s__law_pick) .none kV__law_pick dc__law_pick pm__law_pick an__law_pick cd__law_pick ct__law_pick), sl__law_pick⟩)
    (c__law_pick : PySem.W.codeIn K cd__law_pick "_law_pick" = true)
    (kp__law_pick : PySem.W.keepIn K (.ref f__law_pick) = true)
    (ns__law_bough : PySem.W.nsIn K mainGlobals "_law_bough" = some (some (.ref f__law_bough)))
    (l__law_bough : K.lookup f__law_bough = some ⟨oc__law_bough, od__law_bough, .func (PySem.W.fnOf "_law_bough" "_law_bough" (defArgs s__law_bough) (defBody s__law_bough) (defScope s__law_bough) .none kV__law_bough dc__law_bough pm__law_bough an__law_bough cd__law_bough ct__law_bough), sl__law_bough⟩)
    (c__law_bough : PySem.W.codeIn K cd__law_bough "_law_bough" = true)
    (kp__law_bough : PySem.W.keepIn K (.ref f__law_bough) = true)
    (ns__law_shape : PySem.W.nsIn K mainGlobals "_law_shape" = some (some (.ref f__law_shape)))
    (l__law_shape : K.lookup f__law_shape = some ⟨oc__law_shape, od__law_shape, .func (PySem.W.fnOf "_law_shape" "_law_shape" (defArgs s__law_shape) (defBody s__law_shape) (defScope s__law_shape) .none kV__law_shape dc__law_shape pm__law_shape an__law_shape cd__law_shape ct__law_shape), sl__law_shape⟩)
    (c__law_shape : PySem.W.codeIn K cd__law_shape "_law_shape" = true)
    (kp__law_shape : PySem.W.keepIn K (.ref f__law_shape) = true)
    (fi_Tree_repr : PySem.W.findIn K (.ref C_Tree) "__repr__" = some (some (.ref f_Tree_repr)))
    (fn_Tree_repr : PySem.W.isFn K (.ref f_Tree_repr) = true)
    (l_Tree_repr : K.lookup f_Tree_repr = some ⟨oc_Tree_repr, od_Tree_repr, .func (PySem.W.fnOf "__repr__" "Tree.__repr__" (defArgs s_Tree_repr) (defBody s_Tree_repr) (defScope s_Tree_repr) .none kV_Tree_repr dc_Tree_repr pm_Tree_repr an_Tree_repr cd_Tree_repr ct_Tree_repr), sl_Tree_repr⟩)
    (c_Tree_repr : PySem.W.codeIn K cd_Tree_repr "Tree.__repr__" = true)
    (fi_Tree_str : PySem.W.findIn K (.ref C_Tree) "__str__" = some (some (.ref f_Tree_str)))
    (fn_Tree_str : PySem.W.isFn K (.ref f_Tree_str) = true)
    (l_Tree_str : K.lookup f_Tree_str = some ⟨oc_Tree_str, od_Tree_str, .func (PySem.W.fnOf "__str__" "Tree.__str__" (defArgs s_Tree_str) (defBody s_Tree_str) (defScope s_Tree_str) .none kV_Tree_str dc_Tree_str pm_Tree_str an_Tree_str cd_Tree_str ct_Tree_str), sl_Tree_str⟩)
    (c_Tree_str : PySem.W.codeIn K cd_Tree_str "Tree.__str__" = true)
    (fi_Tree_paths : PySem.W.findIn K (.ref C_Tree) "paths" = some (some (.ref pp_Tree_paths)))
    (pr_Tree_paths : PySem.W.recIn K pp_Tree_paths "property" = some (.ref f_Tree_paths :: rest_Tree_paths))
    (pgt_Tree_paths : PySem.W.specialIn K (.ref pp_Tree_paths) "__get__" = some (some (.builtin "property.__get__")))
    (ptk_Tree_paths : PySem.W.takesIn K (.ref pp_Tree_paths) = some true)
    (l_Tree_paths : K.lookup f_Tree_paths = some ⟨oc_Tree_paths, od_Tree_paths, .func (PySem.W.fnOf "paths" "Tree.paths" (defArgs s_Tree_paths) (defBody s_Tree_paths) (defScope s_Tree_paths) .none kV_Tree_paths dc_Tree_paths pm_Tree_paths an_Tree_paths cd_Tree_paths ct_Tree_paths), sl_Tree_paths⟩)
    (c_Tree_paths : PySem.W.codeIn K cd_Tree_paths "Tree.paths" = true)
    (fi_Tree_levels : PySem.W.findIn K (.ref C_Tree) "levels" = some (some (.ref pp_Tree_levels)))
    (pr_Tree_levels : PySem.W.recIn K pp_Tree_levels "property" = some (.ref f_Tree_levels :: rest_Tree_levels))
    (pgt_Tree_levels : PySem.W.specialIn K (.ref pp_Tree_levels) "__get__" = some (some (.builtin "property.__get__")))
    (ptk_Tree_levels : PySem.W.takesIn K (.ref pp_Tree_levels) = some true)
    (l_Tree_levels : K.lookup f_Tree_levels = some ⟨oc_Tree_levels, od_Tree_levels, .func (PySem.W.fnOf "levels" "Tree.levels" (defArgs s_Tree_levels) (defBody s_Tree_levels) (defScope s_Tree_levels) .none kV_Tree_levels dc_Tree_levels pm_Tree_levels an_Tree_levels cd_Tree_levels ct_Tree_levels), sl_Tree_levels⟩)
    (c_Tree_levels : PySem.W.codeIn K cd_Tree_levels "Tree.levels" = true)
    (fi_Tree_size : PySem.W.findIn K (.ref C_Tree) "size" = some (some (.ref pp_Tree_size)))
    (pr_Tree_size : PySem.W.recIn K pp_Tree_size "property" = some (.ref f_Tree_size :: rest_Tree_size))
    (pgt_Tree_size : PySem.W.specialIn K (.ref pp_Tree_size) "__get__" = some (some (.builtin "property.__get__")))
    (ptk_Tree_size : PySem.W.takesIn K (.ref pp_Tree_size) = some true)
    (l_Tree_size : K.lookup f_Tree_size = some ⟨oc_Tree_size, od_Tree_size, .func (PySem.W.fnOf "size" "Tree.size" (defArgs s_Tree_size) (defBody s_Tree_size) (defScope s_Tree_size) .none kV_Tree_size dc_Tree_size pm_Tree_size an_Tree_size cd_Tree_size ct_Tree_size), sl_Tree_size⟩)
    (c_Tree_size : PySem.W.codeIn K cd_Tree_size "Tree.size" = true)
    (fi_Tree_tint : PySem.W.findIn K (.ref C_Tree) "tint" = some (some (.ref pp_Tree_tint)))
    (pr_Tree_tint : PySem.W.recIn K pp_Tree_tint "property" = some (.ref f_Tree_tint :: rest_Tree_tint))
    (pgt_Tree_tint : PySem.W.specialIn K (.ref pp_Tree_tint) "__get__" = some (some (.builtin "property.__get__")))
    (ptk_Tree_tint : PySem.W.takesIn K (.ref pp_Tree_tint) = some true)
    (l_Tree_tint : K.lookup f_Tree_tint = some ⟨oc_Tree_tint, od_Tree_tint, .func (PySem.W.fnOf "tint" "Tree.tint" (defArgs s_Tree_tint) (defBody s_Tree_tint) (defScope s_Tree_tint) .none kV_Tree_tint dc_Tree_tint pm_Tree_tint an_Tree_tint cd_Tree_tint ct_Tree_tint), sl_Tree_tint⟩)
    (c_Tree_tint : PySem.W.codeIn K cd_Tree_tint "Tree.tint" = true)
    (ns__law_line : PySem.W.nsIn K mainGlobals "_law_line" = some (some (.ref f__law_line)))
    (l__law_line : K.lookup f__law_line = some ⟨oc__law_line, od__law_line, .func (PySem.W.fnOf "_law_line" "_law_line" (defArgs s__law_line) (defBody s__law_line) (defScope s__law_line) .none kV__law_line dc__law_line pm__law_line an__law_line cd__law_line ct__law_line), sl__law_line⟩)
    (c__law_line : PySem.W.codeIn K cd__law_line "_law_line" = true)
    (kp__law_line : PySem.W.keepIn K (.ref f__law_line) = true)
    (ns__law_spots : PySem.W.nsIn K mainGlobals "_law_spots" = some (some (.ref f__law_spots)))
    (l__law_spots : K.lookup f__law_spots = some ⟨oc__law_spots, od__law_spots, .func (PySem.W.fnOf "_law_spots" "_law_spots" (defArgs s__law_spots) (defBody s__law_spots) (defScope s__law_spots) .none kV__law_spots dc__law_spots pm__law_spots an__law_spots cd__law_spots ct__law_spots), sl__law_spots⟩)
    (c__law_spots : PySem.W.codeIn K cd__law_spots "_law_spots" = true)
    (kp__law_spots : PySem.W.keepIn K (.ref f__law_spots) = true)
    (fi_Tree_right : PySem.W.findIn K (.ref C_Tree) "right" = some (some (.ref pp_Tree_right)))
    (pr_Tree_right : PySem.W.recIn K pp_Tree_right "property" = some (.ref f_Tree_right :: rest_Tree_right))
    (pgt_Tree_right : PySem.W.specialIn K (.ref pp_Tree_right) "__get__" = some (some (.builtin "property.__get__")))
    (ptk_Tree_right : PySem.W.takesIn K (.ref pp_Tree_right) = some true)
    (l_Tree_right : K.lookup f_Tree_right = some ⟨oc_Tree_right, od_Tree_right, .func (PySem.W.fnOf "right" "Tree.right" (defArgs s_Tree_right) (defBody s_Tree_right) (defScope s_Tree_right) .none kV_Tree_right dc_Tree_right pm_Tree_right an_Tree_right cd_Tree_right ct_Tree_right), sl_Tree_right⟩)
    (c_Tree_right : PySem.W.codeIn K cd_Tree_right "Tree.right" = true)
    (fi_Tree_left : PySem.W.findIn K (.ref C_Tree) "left" = some (some (.ref pp_Tree_left)))
    (pr_Tree_left : PySem.W.recIn K pp_Tree_left "property" = some (.ref f_Tree_left :: rest_Tree_left))
    (pgt_Tree_left : PySem.W.specialIn K (.ref pp_Tree_left) "__get__" = some (some (.builtin "property.__get__")))
    (ptk_Tree_left : PySem.W.takesIn K (.ref pp_Tree_left) = some true)
    (l_Tree_left : K.lookup f_Tree_left = some ⟨oc_Tree_left, od_Tree_left, .func (PySem.W.fnOf "left" "Tree.left" (defArgs s_Tree_left) (defBody s_Tree_left) (defScope s_Tree_left) .none kV_Tree_left dc_Tree_left pm_Tree_left an_Tree_left cd_Tree_left ct_Tree_left), sl_Tree_left⟩)
    (c_Tree_left : PySem.W.codeIn K cd_Tree_left "Tree.left" = true)
    (ns__law_is : PySem.W.nsIn K mainGlobals "_law_is" = some (some (.ref f__law_is)))
    (l__law_is : K.lookup f__law_is = some ⟨oc__law_is, od__law_is, .func (PySem.W.fnOf "_law_is" "_law_is" (defArgs s__law_is) (defBody s__law_is) (defScope s__law_is) .none kV__law_is dc__law_is pm__law_is an__law_is cd__law_is ct__law_is), sl__law_is⟩)
    (c__law_is : PySem.W.codeIn K cd__law_is "_law_is" = true)
    (kp__law_is : PySem.W.keepIn K (.ref f__law_is) = true)
    (ns_is_tint : PySem.W.nsIn K mainGlobals "is_tint" = some (some (.ref f_is_tint)))
    (l_is_tint : K.lookup f_is_tint = some ⟨oc_is_tint, od_is_tint, .func (PySem.W.fnOf "is_tint" "is_tint" (defArgs s_is_tint) (defBody s_is_tint) (defScope s_is_tint) .none kV_is_tint dc_is_tint pm_is_tint an_is_tint cd_is_tint ct_is_tint), sl_is_tint⟩)
    (c_is_tint : PySem.W.codeIn K cd_is_tint "is_tint" = true)
    (kp_is_tint : PySem.W.keepIn K (.ref f_is_tint) = true)
    (ns_side_text : PySem.W.nsIn K mainGlobals "side_text" = some (some (.ref f_side_text)))
    (l_side_text : K.lookup f_side_text = some ⟨oc_side_text, od_side_text, .func (PySem.W.fnOf "side_text" "side_text" (defArgs s_side_text) (defBody s_side_text) (defScope s_side_text) .none kV_side_text dc_side_text pm_side_text an_side_text cd_side_text ct_side_text), sl_side_text⟩)
    (c_side_text : PySem.W.codeIn K cd_side_text "side_text" = true)
    (kp_side_text : PySem.W.keepIn K (.ref f_side_text) = true)
    (ns_side_size : PySem.W.nsIn K mainGlobals "side_size" = some (some (.ref f_side_size)))
    (l_side_size : K.lookup f_side_size = some ⟨oc_side_size, od_side_size, .func (PySem.W.fnOf "side_size" "side_size" (defArgs s_side_size) (defBody s_side_size) (defScope s_side_size) .none kV_side_size dc_side_size pm_side_size an_side_size cd_side_size ct_side_size), sl_side_size⟩)
    (c_side_size : PySem.W.codeIn K cd_side_size "side_size" = true)
    (kp_side_size : PySem.W.keepIn K (.ref f_side_size) = true)
    (ns_side_levels : PySem.W.nsIn K mainGlobals "side_levels" = some (some (.ref f_side_levels)))
    (l_side_levels : K.lookup f_side_levels = some ⟨oc_side_levels, od_side_levels, .func (PySem.W.fnOf "side_levels" "side_levels" (defArgs s_side_levels) (defBody s_side_levels) (defScope s_side_levels) .none kV_side_levels dc_side_levels pm_side_levels an_side_levels cd_side_levels ct_side_levels), sl_side_levels⟩)
    (c_side_levels : PySem.W.codeIn K cd_side_levels "side_levels" = true)
    (kp_side_levels : PySem.W.keepIn K (.ref f_side_levels) = true)
    (ns_side_routes : PySem.W.nsIn K mainGlobals "side_routes" = some (some (.ref f_side_routes)))
    (l_side_routes : K.lookup f_side_routes = some ⟨oc_side_routes, od_side_routes, .func (PySem.W.fnOf "side_routes" "side_routes" (defArgs s_side_routes) (defBody s_side_routes) (defScope s_side_routes) .none kV_side_routes dc_side_routes pm_side_routes an_side_routes cd_side_routes ct_side_routes), sl_side_routes⟩)
    (c_side_routes : PySem.W.codeIn K cd_side_routes "side_routes" = true)
    (kp_side_routes : PySem.W.keepIn K (.ref f_side_routes) = true)
    (fi_Tree_init : PySem.W.findIn K (.ref C_Tree) "__init__" = some (some (.ref f_Tree_init)))
    (fn_Tree_init : PySem.W.isFn K (.ref f_Tree_init) = true)
    (l_Tree_init : K.lookup f_Tree_init = some ⟨oc_Tree_init, od_Tree_init, .func (PySem.W.fnOf "__init__" "Tree.__init__" (defArgs s_Tree_init) (defBody s_Tree_init) (defScope s_Tree_init) (.ref dT_Tree_init) kV_Tree_init dc_Tree_init pm_Tree_init an_Tree_init cd_Tree_init ct_Tree_init), sl_Tree_init⟩)
    (c_Tree_init : PySem.W.codeIn K cd_Tree_init "Tree.__init__" = true)
    (lT_Tree_init : K.lookup dT_Tree_init = some oT_Tree_init)
    (hoT_Tree_init : oT_Tree_init.data = .seq #[.none, .none] nT_Tree_init)
    (ns__law_named : PySem.W.nsIn K mainGlobals "_law_named" = some (some (.ref f__law_named)))
    (l__law_named : K.lookup f__law_named = some ⟨oc__law_named, od__law_named, .func (PySem.W.fnOf "_law_named" "_law_named" (defArgs s__law_named) (defBody s__law_named) (defScope s__law_named) .none kV__law_named dc__law_named pm__law_named an__law_named cd__law_named ct__law_named), sl__law_named⟩)
    (c__law_named : PySem.W.codeIn K cd__law_named "_law_named" = true)
    (kp__law_named : PySem.W.keepIn K (.ref f__law_named) = true)
    (ns__law_grown : PySem.W.nsIn K mainGlobals "_law_grown" = some (some (.ref f__law_grown)))
    (l__law_grown : K.lookup f__law_grown = some ⟨oc__law_grown, od__law_grown, .func (PySem.W.fnOf "_law_grown" "_law_grown" (defArgs s__law_grown) (defBody s__law_grown) (defScope s__law_grown) .none kV__law_grown dc__law_grown pm__law_grown an__law_grown cd__law_grown ct__law_grown), sl__law_grown⟩)
    (c__law_grown : PySem.W.codeIn K cd__law_grown "_law_grown" = true)
    (kp__law_grown : PySem.W.keepIn K (.ref f__law_grown) = true)
    (ns__law_right : PySem.W.nsIn K mainGlobals "_law_right" = some (some (.ref f__law_right)))
    (l__law_right : K.lookup f__law_right = some ⟨oc__law_right, od__law_right, .func (PySem.W.fnOf "_law_right" "_law_right" (defArgs s__law_right) (defBody s__law_right) (defScope s__law_right) .none kV__law_right dc__law_right pm__law_right an__law_right cd__law_right ct__law_right), sl__law_right⟩)
    (c__law_right : PySem.W.codeIn K cd__law_right "_law_right" = true)
    (kp__law_right : PySem.W.keepIn K (.ref f__law_right) = true)
    (ns__law_stock : PySem.W.nsIn K mainGlobals "_law_stock" = some (some (.ref f__law_stock)))
    (l__law_stock : K.lookup f__law_stock = some ⟨oc__law_stock, od__law_stock, .func (PySem.W.fnOf "_law_stock" "_law_stock" (defArgs s__law_stock) (defBody s__law_stock) (defScope s__law_stock) .none kV__law_stock dc__law_stock pm__law_stock an__law_stock cd__law_stock ct__law_stock), sl__law_stock⟩)
    (c__law_stock : PySem.W.codeIn K cd__law_stock "_law_stock" = true)
    (kp__law_stock : PySem.W.keepIn K (.ref f__law_stock) = true)
    (ns_law : PySem.W.nsIn K mainGlobals "law" = some (some (.ref f_law)))
    (l_law : K.lookup f_law = some ⟨oc_law, od_law, .func (PySem.W.fnOf "law" "law" (defArgs s_law) (defBody s_law) (defScope s_law) .none kV_law dc_law pm_law an_law cd_law ct_law), sl_law⟩)
    (c_law : PySem.W.codeIn K cd_law "law" = true)
    (kp_law : PySem.W.keepIn K (.ref f_law) = true)
    (mk_Tree : PySem.W.makesIn K C_Tree = true)
    (kpc_Tree : PySem.W.keepIn K (.ref C_Tree) = true)
    (g_LETTERS : PySem.W.nsIn K mainGlobals "LETTERS" = some (some (.str "abcdefghijklmnopqrstuvwxyz" gt_LETTERS)))
    (ty_Tree : PySem.W.typeIn K (.ref C_Tree) = some (.type "type"))
    (mr_str_Tree : PySem.W.mroIn K C_Tree (.type "str") = some false)
    (n_Tree_depth : PySem.W.findIn K (.ref C_Tree) "depth" = some none)
    (n_Tree_first : PySem.W.findIn K (.ref C_Tree) "first" = some none)
    (n_Tree_letter : PySem.W.findIn K (.ref C_Tree) "letter" = some none)
    (n_Tree_line : PySem.W.findIn K (.ref C_Tree) "line" = some none)
    (n_Tree_nodes : PySem.W.findIn K (.ref C_Tree) "nodes" = some none)
    (n_Tree_routes : PySem.W.findIn K (.ref C_Tree) "routes" = some none)
    (n_Tree_second : PySem.W.findIn K (.ref C_Tree) "second" = some none)
    (z_abs : PySem.W.nsIn K mainGlobals "abs" = some none)
    (z_all : PySem.W.nsIn K mainGlobals "all" = some none)
    (z_divmod : PySem.W.nsIn K mainGlobals "divmod" = some none)
    (z_int : PySem.W.nsIn K mainGlobals "int" = some none)
    (z_isinstance : PySem.W.nsIn K mainGlobals "isinstance" = some none)
    (z_len : PySem.W.nsIn K mainGlobals "len" = some none)
    (z_list : PySem.W.nsIn K mainGlobals "list" = some none)
    (z_max : PySem.W.nsIn K mainGlobals "max" = some none)
    (z_min : PySem.W.nsIn K mainGlobals "min" = some none)
    (z_range : PySem.W.nsIn K mainGlobals "range" = some none)
    (z_repr : PySem.W.nsIn K mainGlobals "repr" = some none)
    (z_str : PySem.W.nsIn K mainGlobals "str" = some none)
    (z_tuple : PySem.W.nsIn K mainGlobals "tuple" = some none)
    : ∃ fd : FuncData, (∀ (s : Shared) (v : Value), BindsTo s fd ⟨[v], []⟩ [("_law_cells", v)]) ∧ ∀ base : Heap, K.In base → base.Ns mainGlobals mg → FnG l.prog w K mg base 190 fa fd ["_law_cells"] (spLaw K 63) := by
  have e : f_law = fa := by
    have e := (PySem.W.mg_of X G ns_law).symm.trans hfa
    cases e; rfl
  subst e
  let T : Txt K mg := {
    cl := fun c => match c with | 0 => C_Tree | _ => C_Tree
    cls := fun c => match c with | 0 => ⟨⟨pg_Tree, hd_Tree, po_Tree, sa_Tree⟩, ia_Tree, in_, it_, im_Tree⟩ | _ + 1 => ⟨⟨pg_Tree, hd_Tree, po_Tree, sa_Tree⟩, ia_Tree, in_, it_, im_Tree⟩
    a__law_pull := f__law_pull
    d__law_pull := (PySem.W.fnOf "_law_pull" "_law_pull" (defArgs s__law_pull) (defBody s__law_pull) (defScope s__law_pull) .none kV__law_pull dc__law_pull pm__law_pull an__law_pull cd__law_pull ct__law_pull)
    a__law_colours := f__law_colours
    d__law_colours := (PySem.W.fnOf "_law_colours" "_law_colours" (defArgs s__law_colours) (defBody s__law_colours) (defScope s__law_colours) .none kV__law_colours dc__law_colours pm__law_colours an__law_colours cd__law_colours ct__law_colours)
    a__law_pick := f__law_pick
    d__law_pick := (PySem.W.fnOf "_law_pick" "_law_pick" (defArgs s__law_pick) (defBody s__law_pick) (defScope s__law_pick) .none kV__law_pick dc__law_pick pm__law_pick an__law_pick cd__law_pick ct__law_pick)
    a__law_bough := f__law_bough
    d__law_bough := (PySem.W.fnOf "_law_bough" "_law_bough" (defArgs s__law_bough) (defBody s__law_bough) (defScope s__law_bough) .none kV__law_bough dc__law_bough pm__law_bough an__law_bough cd__law_bough ct__law_bough)
    a__law_shape := f__law_shape
    d__law_shape := (PySem.W.fnOf "_law_shape" "_law_shape" (defArgs s__law_shape) (defBody s__law_shape) (defScope s__law_shape) .none kV__law_shape dc__law_shape pm__law_shape an__law_shape cd__law_shape ct__law_shape)
    a_Tree_repr := f_Tree_repr
    d_Tree_repr := (PySem.W.fnOf "__repr__" "Tree.__repr__" (defArgs s_Tree_repr) (defBody s_Tree_repr) (defScope s_Tree_repr) .none kV_Tree_repr dc_Tree_repr pm_Tree_repr an_Tree_repr cd_Tree_repr ct_Tree_repr)
    a_Tree_str := f_Tree_str
    d_Tree_str := (PySem.W.fnOf "__str__" "Tree.__str__" (defArgs s_Tree_str) (defBody s_Tree_str) (defScope s_Tree_str) .none kV_Tree_str dc_Tree_str pm_Tree_str an_Tree_str cd_Tree_str ct_Tree_str)
    a_Tree_paths := f_Tree_paths
    d_Tree_paths := (PySem.W.fnOf "paths" "Tree.paths" (defArgs s_Tree_paths) (defBody s_Tree_paths) (defScope s_Tree_paths) .none kV_Tree_paths dc_Tree_paths pm_Tree_paths an_Tree_paths cd_Tree_paths ct_Tree_paths)
    a_Tree_levels := f_Tree_levels
    d_Tree_levels := (PySem.W.fnOf "levels" "Tree.levels" (defArgs s_Tree_levels) (defBody s_Tree_levels) (defScope s_Tree_levels) .none kV_Tree_levels dc_Tree_levels pm_Tree_levels an_Tree_levels cd_Tree_levels ct_Tree_levels)
    a_Tree_size := f_Tree_size
    d_Tree_size := (PySem.W.fnOf "size" "Tree.size" (defArgs s_Tree_size) (defBody s_Tree_size) (defScope s_Tree_size) .none kV_Tree_size dc_Tree_size pm_Tree_size an_Tree_size cd_Tree_size ct_Tree_size)
    a_Tree_tint := f_Tree_tint
    d_Tree_tint := (PySem.W.fnOf "tint" "Tree.tint" (defArgs s_Tree_tint) (defBody s_Tree_tint) (defScope s_Tree_tint) .none kV_Tree_tint dc_Tree_tint pm_Tree_tint an_Tree_tint cd_Tree_tint ct_Tree_tint)
    a__law_line := f__law_line
    d__law_line := (PySem.W.fnOf "_law_line" "_law_line" (defArgs s__law_line) (defBody s__law_line) (defScope s__law_line) .none kV__law_line dc__law_line pm__law_line an__law_line cd__law_line ct__law_line)
    a__law_spots := f__law_spots
    d__law_spots := (PySem.W.fnOf "_law_spots" "_law_spots" (defArgs s__law_spots) (defBody s__law_spots) (defScope s__law_spots) .none kV__law_spots dc__law_spots pm__law_spots an__law_spots cd__law_spots ct__law_spots)
    a_Tree_right := f_Tree_right
    d_Tree_right := (PySem.W.fnOf "right" "Tree.right" (defArgs s_Tree_right) (defBody s_Tree_right) (defScope s_Tree_right) .none kV_Tree_right dc_Tree_right pm_Tree_right an_Tree_right cd_Tree_right ct_Tree_right)
    a_Tree_left := f_Tree_left
    d_Tree_left := (PySem.W.fnOf "left" "Tree.left" (defArgs s_Tree_left) (defBody s_Tree_left) (defScope s_Tree_left) .none kV_Tree_left dc_Tree_left pm_Tree_left an_Tree_left cd_Tree_left ct_Tree_left)
    a__law_is := f__law_is
    d__law_is := (PySem.W.fnOf "_law_is" "_law_is" (defArgs s__law_is) (defBody s__law_is) (defScope s__law_is) .none kV__law_is dc__law_is pm__law_is an__law_is cd__law_is ct__law_is)
    a_is_tint := f_is_tint
    d_is_tint := (PySem.W.fnOf "is_tint" "is_tint" (defArgs s_is_tint) (defBody s_is_tint) (defScope s_is_tint) .none kV_is_tint dc_is_tint pm_is_tint an_is_tint cd_is_tint ct_is_tint)
    a_side_text := f_side_text
    d_side_text := (PySem.W.fnOf "side_text" "side_text" (defArgs s_side_text) (defBody s_side_text) (defScope s_side_text) .none kV_side_text dc_side_text pm_side_text an_side_text cd_side_text ct_side_text)
    a_side_size := f_side_size
    d_side_size := (PySem.W.fnOf "side_size" "side_size" (defArgs s_side_size) (defBody s_side_size) (defScope s_side_size) .none kV_side_size dc_side_size pm_side_size an_side_size cd_side_size ct_side_size)
    a_side_levels := f_side_levels
    d_side_levels := (PySem.W.fnOf "side_levels" "side_levels" (defArgs s_side_levels) (defBody s_side_levels) (defScope s_side_levels) .none kV_side_levels dc_side_levels pm_side_levels an_side_levels cd_side_levels ct_side_levels)
    a_side_routes := f_side_routes
    d_side_routes := (PySem.W.fnOf "side_routes" "side_routes" (defArgs s_side_routes) (defBody s_side_routes) (defScope s_side_routes) .none kV_side_routes dc_side_routes pm_side_routes an_side_routes cd_side_routes ct_side_routes)
    a_Tree_init := f_Tree_init
    d_Tree_init := (PySem.W.fnOf "__init__" "Tree.__init__" (defArgs s_Tree_init) (defBody s_Tree_init) (defScope s_Tree_init) (.ref dT_Tree_init) kV_Tree_init dc_Tree_init pm_Tree_init an_Tree_init cd_Tree_init ct_Tree_init)
    a__law_named := f__law_named
    d__law_named := (PySem.W.fnOf "_law_named" "_law_named" (defArgs s__law_named) (defBody s__law_named) (defScope s__law_named) .none kV__law_named dc__law_named pm__law_named an__law_named cd__law_named ct__law_named)
    a__law_grown := f__law_grown
    d__law_grown := (PySem.W.fnOf "_law_grown" "_law_grown" (defArgs s__law_grown) (defBody s__law_grown) (defScope s__law_grown) .none kV__law_grown dc__law_grown pm__law_grown an__law_grown cd__law_grown ct__law_grown)
    a__law_right := f__law_right
    d__law_right := (PySem.W.fnOf "_law_right" "_law_right" (defArgs s__law_right) (defBody s__law_right) (defScope s__law_right) .none kV__law_right dc__law_right pm__law_right an__law_right cd__law_right ct__law_right)
    a__law_stock := f__law_stock
    d__law_stock := (PySem.W.fnOf "_law_stock" "_law_stock" (defArgs s__law_stock) (defBody s__law_stock) (defScope s__law_stock) .none kV__law_stock dc__law_stock pm__law_stock an__law_stock cd__law_stock ct__law_stock)
    a_law := f_law
    d_law := (PySem.W.fnOf "law" "law" (defArgs s_law) (defBody s_law) (defScope s_law) .none kV_law dc_law pm_law an_law cd_law ct_law)
    x__law_pull := funx_mk l__law_pull c__law_pull
    m__law_pull := PySem.W.mg_of X G ns__law_pull
    k__law_pull := kp__law_pull
    x__law_colours := funx_mk l__law_colours c__law_colours
    m__law_colours := PySem.W.mg_of X G ns__law_colours
    k__law_colours := kp__law_colours
    x__law_pick := funx_mk l__law_pick c__law_pick
    m__law_pick := PySem.W.mg_of X G ns__law_pick
    k__law_pick := kp__law_pick
    x__law_bough := funx_mk l__law_bough c__law_bough
    m__law_bough := PySem.W.mg_of X G ns__law_bough
    k__law_bough := kp__law_bough
    x__law_shape := funx_mk l__law_shape c__law_shape
    m__law_shape := PySem.W.mg_of X G ns__law_shape
    k__law_shape := kp__law_shape
    x_Tree_repr := funx_mk l_Tree_repr c_Tree_repr
    x_Tree_str := funx_mk l_Tree_str c_Tree_str
    x_Tree_paths := funx_mk l_Tree_paths c_Tree_paths
    x_Tree_levels := funx_mk l_Tree_levels c_Tree_levels
    x_Tree_size := funx_mk l_Tree_size c_Tree_size
    x_Tree_tint := funx_mk l_Tree_tint c_Tree_tint
    x__law_line := funx_mk l__law_line c__law_line
    m__law_line := PySem.W.mg_of X G ns__law_line
    k__law_line := kp__law_line
    x__law_spots := funx_mk l__law_spots c__law_spots
    m__law_spots := PySem.W.mg_of X G ns__law_spots
    k__law_spots := kp__law_spots
    x_Tree_right := funx_mk l_Tree_right c_Tree_right
    x_Tree_left := funx_mk l_Tree_left c_Tree_left
    x__law_is := funx_mk l__law_is c__law_is
    m__law_is := PySem.W.mg_of X G ns__law_is
    k__law_is := kp__law_is
    x_is_tint := funx_mk l_is_tint c_is_tint
    m_is_tint := PySem.W.mg_of X G ns_is_tint
    k_is_tint := kp_is_tint
    x_side_text := funx_mk l_side_text c_side_text
    m_side_text := PySem.W.mg_of X G ns_side_text
    k_side_text := kp_side_text
    x_side_size := funx_mk l_side_size c_side_size
    m_side_size := PySem.W.mg_of X G ns_side_size
    k_side_size := kp_side_size
    x_side_levels := funx_mk l_side_levels c_side_levels
    m_side_levels := PySem.W.mg_of X G ns_side_levels
    k_side_levels := kp_side_levels
    x_side_routes := funx_mk l_side_routes c_side_routes
    m_side_routes := PySem.W.mg_of X G ns_side_routes
    k_side_routes := kp_side_routes
    x_Tree_init := funx_mk l_Tree_init c_Tree_init
    x__law_named := funx_mk l__law_named c__law_named
    m__law_named := PySem.W.mg_of X G ns__law_named
    k__law_named := kp__law_named
    x__law_grown := funx_mk l__law_grown c__law_grown
    m__law_grown := PySem.W.mg_of X G ns__law_grown
    k__law_grown := kp__law_grown
    x__law_right := funx_mk l__law_right c__law_right
    m__law_right := PySem.W.mg_of X G ns__law_right
    k__law_right := kp__law_right
    x__law_stock := funx_mk l__law_stock c__law_stock
    m__law_stock := PySem.W.mg_of X G ns__law_stock
    k__law_stock := kp__law_stock
    x_law := funx_mk l_law c_law
    m_law := PySem.W.mg_of X G ns_law
    k_law := kp_law
    b_Tree_init_0_right_left_tint := bnd_dflt lT_Tree_init hoT_Tree_init fun fs us ws a b c => match fs, us, ws, a, b, c with | [_], [], [_, _, _], _, _, _ => ⟨_, rfl, rfl⟩
    b_Tree_init_0_tint := bnd_dflt lT_Tree_init hoT_Tree_init fun fs us ws a b c => match fs, us, ws, a, b, c with | [_], [], [_], _, _, _ => ⟨_, rfl, rfl⟩
    b_Tree_init_1_right := bnd_dflt lT_Tree_init hoT_Tree_init fun fs us ws a b c => match fs, us, ws, a, b, c with | [_], [_], [_], _, _, _ => ⟨_, rfl, rfl⟩
    b_Tree_init_2 := bnd_dflt lT_Tree_init hoT_Tree_init fun fs us ws a b c => match fs, us, ws, a, b, c with | [_], [_, _], [], _, _, _ => ⟨_, rfl, rfl⟩
    b_Tree_init_3 := bnd_dflt lT_Tree_init hoT_Tree_init fun fs us ws a b c => match fs, us, ws, a, b, c with | [_], [_, _, _], [], _, _, _ => ⟨_, rfl, rfl⟩
    b_Tree_left_0 := bnd_mk fun fs us ws a b c => match fs, us, ws, a, b, c with | [_], [], [], _, _, _ => rfl
    b_Tree_levels_0 := bnd_mk fun fs us ws a b c => match fs, us, ws, a, b, c with | [_], [], [], _, _, _ => rfl
    b_Tree_paths_0 := bnd_mk fun fs us ws a b c => match fs, us, ws, a, b, c with | [_], [], [], _, _, _ => rfl
    b_Tree_repr_0 := bnd_mk fun fs us ws a b c => match fs, us, ws, a, b, c with | [_], [], [], _, _, _ => rfl
    b_Tree_right_0 := bnd_mk fun fs us ws a b c => match fs, us, ws, a, b, c with | [_], [], [], _, _, _ => rfl
    b_Tree_size_0 := bnd_mk fun fs us ws a b c => match fs, us, ws, a, b, c with | [_], [], [], _, _, _ => rfl
    b_Tree_str_0 := bnd_mk fun fs us ws a b c => match fs, us, ws, a, b, c with | [_], [], [], _, _, _ => rfl
    b_Tree_tint_0 := bnd_mk fun fs us ws a b c => match fs, us, ws, a, b, c with | [_], [], [], _, _, _ => rfl
    b__law_bough_3 := bnd_mk fun fs us ws a b c => match fs, us, ws, a, b, c with | [], [_, _, _], [], _, _, _ => rfl
    b__law_colours_2 := bnd_mk fun fs us ws a b c => match fs, us, ws, a, b, c with | [], [_, _], [], _, _, _ => rfl
    b__law_grown_1 := bnd_mk fun fs us ws a b c => match fs, us, ws, a, b, c with | [], [_], [], _, _, _ => rfl
    b__law_is_2 := bnd_mk fun fs us ws a b c => match fs, us, ws, a, b, c with | [], [_, _], [], _, _, _ => rfl
    b__law_line_1 := bnd_mk fun fs us ws a b c => match fs, us, ws, a, b, c with | [], [_], [], _, _, _ => rfl
    b__law_named_1 := bnd_mk fun fs us ws a b c => match fs, us, ws, a, b, c with | [], [_], [], _, _, _ => rfl
    b__law_pick_2 := bnd_mk fun fs us ws a b c => match fs, us, ws, a, b, c with | [], [_, _], [], _, _, _ => rfl
    b__law_pull_2 := bnd_mk fun fs us ws a b c => match fs, us, ws, a, b, c with | [], [_, _], [], _, _, _ => rfl
    b__law_right_1 := bnd_mk fun fs us ws a b c => match fs, us, ws, a, b, c with | [], [_], [], _, _, _ => rfl
    b__law_shape_1 := bnd_mk fun fs us ws a b c => match fs, us, ws, a, b, c with | [], [_], [], _, _, _ => rfl
    b__law_spots_2 := bnd_mk fun fs us ws a b c => match fs, us, ws, a, b, c with | [], [_, _], [], _, _, _ => rfl
    b__law_stock_2 := bnd_mk fun fs us ws a b c => match fs, us, ws, a, b, c with | [], [_, _], [], _, _, _ => rfl
    b_is_tint_1 := bnd_mk fun fs us ws a b c => match fs, us, ws, a, b, c with | [], [_], [], _, _, _ => rfl
    b_side_levels_1 := bnd_mk fun fs us ws a b c => match fs, us, ws, a, b, c with | [], [_], [], _, _, _ => rfl
    b_side_routes_2 := bnd_mk fun fs us ws a b c => match fs, us, ws, a, b, c with | [], [_, _], [], _, _, _ => rfl
    b_side_size_1 := bnd_mk fun fs us ws a b c => match fs, us, ws, a, b, c with | [], [_], [], _, _, _ => rfl
    b_side_text_1 := bnd_mk fun fs us ws a b c => match fs, us, ws, a, b, c with | [], [_], [], _, _, _ => rfl
    m_Tree := PySem.W.mg_of X G ns_Tree
    k_Tree := ⟨mk_Tree, fi_Tree_init, fn_Tree_init, kpc_Tree⟩
    g_LETTERS := ⟨_, PySem.W.mg_of X G g_LETTERS, ⟨_, rfl⟩⟩
    it_Tree := .of (.own _) (kit_tr im_Tree ty_Tree rfl) (kit_tr im_Tree ty_Tree rfl) (kit_tr im_Tree ty_Tree rfl) (kit_tr im_Tree ty_Tree rfl) (kit_tr im_Tree ty_Tree rfl) (kit_tr im_Tree ty_Tree rfl) (kit_tr im_Tree ty_Tree rfl) fun c k e => match c, e with | 0, e => by cases e; exact kit_same | _ + 1, e => by cases e
    it_str := .of (.ty _) (kit_ty (by decide +kernel)) (kit_ty (by decide +kernel)) (kit_ty (by decide +kernel)) (kit_ty (by decide +kernel)) (kit_ty (by decide +kernel)) (kit_ty (by decide +kernel)) (kit_ty (by decide +kernel)) fun c k e => match c, e with | 0, e => by cases e; exact kit_rt mr_str_Tree (by decide +kernel) | _ + 1, e => by cases e
    n_depth := fun c => match c with | 0 => n_Tree_depth | _ + 1 => n_Tree_depth
    n_first := fun c => match c with | 0 => n_Tree_first | _ + 1 => n_Tree_first
    n_letter := fun c => match c with | 0 => n_Tree_letter | _ + 1 => n_Tree_letter
    n_line := fun c => match c with | 0 => n_Tree_line | _ + 1 => n_Tree_line
    n_nodes := fun c => match c with | 0 => n_Tree_nodes | _ + 1 => n_Tree_nodes
    n_routes := fun c => match c with | 0 => n_Tree_routes | _ + 1 => n_Tree_routes
    n_second := fun c => match c with | 0 => n_Tree_second | _ + 1 => n_Tree_second
    o_Tree_repr := fi_Tree_repr
    of_Tree_repr := fn_Tree_repr
    o_Tree_str := fi_Tree_str
    of_Tree_str := fn_Tree_str
    pp_left := pp_Tree_left
    p_left := ⟨fi_Tree_left, pgt_Tree_left, ptk_Tree_left, _, pr_Tree_left⟩
    pp_levels := pp_Tree_levels
    p_levels := ⟨fi_Tree_levels, pgt_Tree_levels, ptk_Tree_levels, _, pr_Tree_levels⟩
    pp_paths := pp_Tree_paths
    p_paths := ⟨fi_Tree_paths, pgt_Tree_paths, ptk_Tree_paths, _, pr_Tree_paths⟩
    pp_right := pp_Tree_right
    p_right := ⟨fi_Tree_right, pgt_Tree_right, ptk_Tree_right, _, pr_Tree_right⟩
    pp_size := pp_Tree_size
    p_size := ⟨fi_Tree_size, pgt_Tree_size, ptk_Tree_size, _, pr_Tree_size⟩
    pp_tint := pp_Tree_tint
    p_tint := ⟨fi_Tree_tint, pgt_Tree_tint, ptk_Tree_tint, _, pr_Tree_tint⟩
    z_abs := PySem.W.mg_none_of X G z_abs
    z_all := PySem.W.mg_none_of X G z_all
    z_divmod := PySem.W.mg_none_of X G z_divmod
    z_int := PySem.W.mg_none_of X G z_int
    z_isinstance := PySem.W.mg_none_of X G z_isinstance
    z_len := PySem.W.mg_none_of X G z_len
    z_list := PySem.W.mg_none_of X G z_list
    z_max := PySem.W.mg_none_of X G z_max
    z_min := PySem.W.mg_none_of X G z_min
    z_range := PySem.W.mg_none_of X G z_range
    z_repr := PySem.W.mg_none_of X G z_repr
    z_str := PySem.W.mg_none_of X G z_str
    z_tuple := PySem.W.mg_none_of X G z_tuple
  }
  exact ⟨(PySem.W.fnOf "law" "law" (defArgs s_law) (defBody s_law) (defScope s_law) .none kV_law dc_law pm_law an_law cd_law ct_law), fun s v => .of_eq rfl, fun base _ _ => law_sp (ok_law T)⟩
theorem walk {l : PySem.W.OpenLaw} {q : Program} {loose : List Str} {XP : (Str → Option Value) → Heap → Prop} {YP : World → Heap → Prop} {d : DefRec} {K : Params → PySem.W.Frag} (hn : l.most = some 63) (hdf : d.params.defaults = [])
    (hY : ∀ (w : World) (h : Heap), YP w h → (K w.params).In h)
    (F : ∀ (w : World) (mg : Str → Option Value) (fa : Addr) (h : Heap), (K w.params).In h → h.Ns mainGlobals mg → mg d.name = some (.ref fa) →
      ∃ fd : FuncData, (∀ (s : Shared) (u : Value), BindsTo s fd ⟨[u], []⟩ [("_law_cells", u)]) ∧ ∀ base : Heap, (K w.params).In base → base.Ns mainGlobals mg → FnG l.prog w (K w.params) mg base 190 fa fd ["_law_cells"] (spLaw (K w.params) 63)) :
    PySem.W.WalkO q loose XP YP l.row.toRowW d [] (fun f vs => PySem.call f vs) :=
  walkG (n := 63) (k := 190) (x := "_law_cells") (sp := fun w => spLaw (K w.params) 63) hn (by decide) hdf ⟨rfl, by decide, by decide⟩ hY F fun _ _ a ns hl hS => ⟨a, ns, rfl, hS, hl, fun _ => rfl⟩
end K01

open PySem PySem.W PyProof.Rows in
set_option maxRecDepth 100000 in
set_option maxHeartbeats 0 in
theorem PySem.Challenge.cw_pilewalks_k01_trees_are_made_holds : PySem.Challenge.rw_pilewalks_k01_trees_are_made.Holds := by
  w_on; o_law; k_head; (case hw => w_witness2)
  k_fill
  refine K01.walk (l := PySem.Challenge.rw_pilewalks_k01_trees_are_made) rfl rfl (fun w h Y => PySem.W.kIn_of Y) ?F
  case F =>
    intro w mg fa h KX G hmg
    refine' K01.all_mk KX G hmg ?ns_Tree ?pg_Tree ?hd_Tree ?po_Tree ?sa_Tree ?ia_Tree ?im_Tree ?in_ ?it_ ?ns__law_pull ?l__law_pull ?c__law_pull ?kp__law_pull ?ns__law_colours ?l__law_colours ?c__law_colours ?kp__law_colours ?ns__law_pick ?l__law_pick ?c__law_pick ?kp__law_pick ?ns__law_bough ?l__law_bough ?c__law_bough ?kp__law_bough ?ns__law_shape ?l__law_shape ?c__law_shape ?kp__law_shape ?fi_Tree_repr ?fn_Tree_repr ?l_Tree_repr ?c_Tree_repr ?fi_Tree_str ?fn_Tree_str ?l_Tree_str ?c_Tree_str ?fi_Tree_paths ?pr_Tree_paths ?pgt_Tree_paths ?ptk_Tree_paths ?l_Tree_paths ?c_Tree_paths ?fi_Tree_levels ?pr_Tree_levels ?pgt_Tree_levels ?ptk_Tree_levels ?l_Tree_levels ?c_Tree_levels ?fi_Tree_size ?pr_Tree_size ?pgt_Tree_size ?ptk_Tree_size ?l_Tree_size ?c_Tree_size ?fi_Tree_tint ?pr_Tree_tint ?pgt_Tree_tint ?ptk_Tree_tint ?l_Tree_tint ?c_Tree_tint ?ns__law_line ?l__law_line ?c__law_line ?kp__law_line ?ns__law_spots ?l__law_spots ?c__law_spots ?kp__law_spots ?fi_Tree_right ?pr_Tree_right ?pgt_Tree_right ?ptk_Tree_right ?l_Tree_right ?c_Tree_right ?fi_Tree_left ?pr_Tree_left ?pgt_Tree_left ?ptk_Tree_left ?l_Tree_left ?c_Tree_left ?ns__law_is ?l__law_is ?c__law_is ?kp__law_is ?ns_is_tint ?l_is_tint ?c_is_tint ?kp_is_tint ?ns_side_text ?l_side_text ?c_side_text ?kp_side_text ?ns_side_size ?l_side_size ?c_side_size ?kp_side_size ?ns_side_levels ?l_side_levels ?c_side_levels ?kp_side_levels ?ns_side_routes ?l_side_routes ?c_side_routes ?kp_side_routes ?fi_Tree_init ?fn_Tree_init ?l_Tree_init ?c_Tree_init ?lT_Tree_init ?hoT_Tree_init ?ns__law_named ?l__law_named ?c__law_named ?kp__law_named ?ns__law_grown ?l__law_grown ?c__law_grown ?kp__law_grown ?ns__law_right ?l__law_right ?c__law_right ?kp__law_right ?ns__law_stock ?l__law_stock ?c__law_stock ?kp__law_stock ?ns_law ?l_law ?c_law ?kp_law ?mk_Tree ?kpc_Tree ?g_LETTERS ?ty_Tree ?mr_str_Tree ?n_Tree_depth ?n_Tree_first ?n_Tree_letter ?n_Tree_line ?n_Tree_nodes ?n_Tree_routes ?n_Tree_second ?z_abs ?z_all ?z_divmod ?z_int ?z_isinstance ?z_len ?z_list ?z_max ?z_min ?z_range ?z_repr ?z_str ?z_tuple
    (case ns_Tree => k_is)
    (case pg_Tree => k_is)
    (case hd_Tree => k_is)
    (case po_Tree => k_is)
    (case sa_Tree => k_is)
    (case ia_Tree => k_is)
    (case im_Tree => k_is)
    (case in_ => k_is)
    (case it_ => k_is)
    (case ns__law_pull => k_is)
    (case l__law_pull => k_is)
    (case c__law_pull => k_is)
    (case kp__law_pull => k_is)
    (case ns__law_colours => k_is)
    (case l__law_colours => k_is)
    (case c__law_colours => k_is)
    (case kp__law_colours => k_is)
    (case ns__law_pick => k_is)
    (case l__law_pick => k_is)
    (case c__law_pick => k_is)
    (case kp__law_pick => k_is)
    (case ns__law_bough => k_is)
    (case l__law_bough => k_is)
    (case c__law_bough => k_is)
    (case kp__law_bough => k_is)
    (case ns__law_shape => k_is)
    (case l__law_shape => k_is)
    (case c__law_shape => k_is)
    (case kp__law_shape => k_is)
    (case fi_Tree_repr => k_is)
    (case fn_Tree_repr => k_is)
    (case l_Tree_repr => k_is)
    (case c_Tree_repr => k_is)
    (case fi_Tree_str => k_is)
    (case fn_Tree_str => k_is)
    (case l_Tree_str => k_is)
    (case c_Tree_str => k_is)
    (case fi_Tree_paths => k_is)
    (case pr_Tree_paths => k_is)
    (case pgt_Tree_paths => k_is)
    (case ptk_Tree_paths => k_is)
    (case l_Tree_paths => k_is)
    (case c_Tree_paths => k_is)
    (case fi_Tree_levels => k_is)
    (case pr_Tree_levels => k_is)
    (case pgt_Tree_levels => k_is)
    (case ptk_Tree_levels => k_is)
    (case l_Tree_levels => k_is)
    (case c_Tree_levels => k_is)
    (case fi_Tree_size => k_is)
    (case pr_Tree_size => k_is)
    (case pgt_Tree_size => k_is)
    (case ptk_Tree_size => k_is)
    (case l_Tree_size => k_is)
    (case c_Tree_size => k_is)
    (case fi_Tree_tint => k_is)
    (case pr_Tree_tint => k_is)
    (case pgt_Tree_tint => k_is)
    (case ptk_Tree_tint => k_is)
    (case l_Tree_tint => k_is)
    (case c_Tree_tint => k_is)
    (case ns__law_line => k_is)
    (case l__law_line => k_is)
    (case c__law_line => k_is)
    (case kp__law_line => k_is)
    (case ns__law_spots => k_is)
    (case l__law_spots => k_is)
    (case c__law_spots => k_is)
    (case kp__law_spots => k_is)
    (case fi_Tree_right => k_is)
    (case pr_Tree_right => k_is)
    (case pgt_Tree_right => k_is)
    (case ptk_Tree_right => k_is)
    (case l_Tree_right => k_is)
    (case c_Tree_right => k_is)
    (case fi_Tree_left => k_is)
    (case pr_Tree_left => k_is)
    (case pgt_Tree_left => k_is)
    (case ptk_Tree_left => k_is)
    (case l_Tree_left => k_is)
    (case c_Tree_left => k_is)
    (case ns__law_is => k_is)
    (case l__law_is => k_is)
    (case c__law_is => k_is)
    (case kp__law_is => k_is)
    (case ns_is_tint => k_is)
    (case l_is_tint => k_is)
    (case c_is_tint => k_is)
    (case kp_is_tint => k_is)
    (case ns_side_text => k_is)
    (case l_side_text => k_is)
    (case c_side_text => k_is)
    (case kp_side_text => k_is)
    (case ns_side_size => k_is)
    (case l_side_size => k_is)
    (case c_side_size => k_is)
    (case kp_side_size => k_is)
    (case ns_side_levels => k_is)
    (case l_side_levels => k_is)
    (case c_side_levels => k_is)
    (case kp_side_levels => k_is)
    (case ns_side_routes => k_is)
    (case l_side_routes => k_is)
    (case c_side_routes => k_is)
    (case kp_side_routes => k_is)
    (case fi_Tree_init => k_is)
    (case fn_Tree_init => k_is)
    (case l_Tree_init => k_is)
    (case c_Tree_init => k_is)
    (case lT_Tree_init => k_is)
    (case hoT_Tree_init => rfl)
    (case ns__law_named => k_is)
    (case l__law_named => k_is)
    (case c__law_named => k_is)
    (case kp__law_named => k_is)
    (case ns__law_grown => k_is)
    (case l__law_grown => k_is)
    (case c__law_grown => k_is)
    (case kp__law_grown => k_is)
    (case ns__law_right => k_is)
    (case l__law_right => k_is)
    (case c__law_right => k_is)
    (case kp__law_right => k_is)
    (case ns__law_stock => k_is)
    (case l__law_stock => k_is)
    (case c__law_stock => k_is)
    (case kp__law_stock => k_is)
    (case ns_law => k_is)
    (case l_law => k_is)
    (case c_law => k_is)
    (case kp_law => k_is)
    (case mk_Tree => k_is)
    (case kpc_Tree => k_is)
    (case g_LETTERS => k_is)
    (case ty_Tree => k_is)
    (case mr_str_Tree => k_is)
    (case n_Tree_depth => k_is)
    (case n_Tree_first => k_is)
    (case n_Tree_letter => k_is)
    (case n_Tree_line => k_is)
    (case n_Tree_nodes => k_is)
    (case n_Tree_routes => k_is)
    (case n_Tree_second => k_is)
    (case z_abs => k_is)
    (case z_all => k_is)
    (case z_divmod => k_is)
    (case z_int => k_is)
    (case z_isinstance => k_is)
    (case z_len => k_is)
    (case z_list => k_is)
    (case z_max => k_is)
    (case z_min => k_is)
    (case z_range => k_is)
    (case z_repr => k_is)
    (case z_str => k_is)
    (case z_tuple => k_is)
