import PyProof.Rows.All
import Wide.All
import OpenK.AllK
import Wide.FinOn
import HandS.ForMost
import HandS.ForExc
import HandS.Flow
import HandS.Lambda
import HandS.Nested
import HandS.TupAny
import HandS.Property
import HandS.FStr
import HandS.IsInst
import HandS.MakeKw
import HandS.HeadEnd
import HandS.RaiseMore
import KE.KFmtOwn
import PyProof.ReprRoads
import KE.KDictList
import HandS.Ends
import KE.KIsAll
import PyProof.StrLawsRepr
import HandS.ExcInit
import HandS.TryMany
import HandS.ExcField
import HandS.ExcIs
import HandS.OwnEq
import HandS.ClsMeth
import PyProof.InstNe
import HandS.ExcOwn
import HandS.Iter
import HandS.EndTab
import KE.KNestM
import KE.KTryMore
import PyProof.StrLaws
import PySem.Challenge.RW_pilewalks_k05_trees_are_refused
set_option Elab.async false
set_option linter.all false
set_option maxRecDepth 100000
set_option maxHeartbeats 4000000
namespace DL
open PySem L2

inductive D where
  | v (x : V)
  | lst (xs : List D)
  | kst (xs : List D)
  | tup (xs : List D)
  | dic (ks : List Key) (vs : List D)
  | obj (c : Nat) (ns : List Str) (vs : List D)
  | stk
abbrev D.int (i : Int) : D := .v (.int i)
abbrev D.str (x : Str) : D := .v (.str x)
abbrev D.bl (b : Bool) : D := .v (.bl b)
abbrev D.non : D := .v .non

structure DC where
  K : PySem.W.Frag
  cl : Nat → Addr
  T : List NdefX.NTab
  P0 : Hp
  H0 : Hp
  io : Addr → Prop

def stkO (a : Addr) : HO := .ext fun h => ∃ (x y c : Int) (t u r : Tok) (n : Nat), h.get? a = some { cls := .type "list", data := .seq #[.int x t, .int y u, .int c r] n } ∧ 0 ≤ x ∧ 0 ≤ y ∧ y < 2147483648 ∧ 0 ≤ c

mutual
def Is (K : PySem.W.Frag) (cl : Nat → Addr) (P : Hp) : D → V → Prop
  | .v x, y => y = x
  | .lst ds, y => ∃ a xs, y = .ref a ∧ P a = some (.lst xs) ∧ IsA K cl P ds xs
  | .kst ds, y => ∃ a xs, y = .ref a ∧ SqL K P a xs ∧ IsA K cl P ds xs
  | .tup ds, y => ∃ a xs, y = .ref a ∧ SqT K P a xs ∧ IsA K cl P ds xs
  | .dic ks ds, y => ∃ a kvs, y = .ref a ∧ P a = some (.dK kvs) ∧ kvs.map (·.1) = ks ∧ IsA K cl P ds (kvs.map (·.2))
  | .obj c ns ds, y => ∃ a dx fs, y = .ref a ∧ P a = some (.ins (cl c) dx fs) ∧ fs.map (·.1) = ns ∧ IsA K cl P ds (fs.map (·.2))
  | .stk, y => ∃ a, y = .ref a ∧ P a = some (stkO a)
def IsA (K : PySem.W.Frag) (cl : Nat → Addr) (P : Hp) : List D → List V → Prop
  | [], xs => xs = []
  | d :: ds, xs => ∃ x r, xs = x :: r ∧ Is K cl P d x ∧ IsA K cl P ds r
end

section
variable {K : PySem.W.Frag} {cl : Nat → Addr} {P P' H : Hp}
theorem sqT_mono {a : Addr} {xs : List V} (e : Same P P') (h : SqT K P a xs) : SqT K P' a xs := by
  rcases h with (h | ⟨o, h⟩) | h
  · exact .inl (.inl (e _ _ h))
  · exact .inl (.inr ⟨o, e _ _ h⟩)
  · exact .inr h
mutual
theorem Is.mono (e : Same P P') : ∀ {d : D} {y : V}, Is K cl P d y → Is K cl P' d y
  | .v x, y, h => by unfold Is at h ⊢; exact h
  | .lst ds, y, h => by
    unfold Is at h ⊢
    obtain ⟨a, xs, h1, h2, h3⟩ := h
    exact ⟨a, xs, h1, e _ _ h2, IsA.mono e h3⟩
  | .kst ds, y, h => by
    unfold Is at h ⊢
    obtain ⟨a, xs, h1, h2, h3⟩ := h
    exact ⟨a, xs, h1, e.seq h2, IsA.mono e h3⟩
  | .tup ds, y, h => by
    unfold Is at h ⊢
    obtain ⟨a, xs, h1, h2, h3⟩ := h
    exact ⟨a, xs, h1, sqT_mono e h2, IsA.mono e h3⟩
  | .dic ks ds, y, h => by
    unfold Is at h ⊢
    obtain ⟨a, xs, h1, h2, h3, h4⟩ := h
    exact ⟨a, xs, h1, e _ _ h2, h3, IsA.mono e h4⟩
  | .obj c ns ds, y, h => by
    unfold Is at h ⊢
    obtain ⟨a, dx, fs, h1, h2, h3, h4⟩ := h
    exact ⟨a, dx, fs, h1, e _ _ h2, h3, IsA.mono e h4⟩
  | .stk, y, h => by
    unfold Is at h ⊢
    obtain ⟨a, h1, h2⟩ := h
    exact ⟨a, h1, e _ _ h2⟩
theorem IsA.mono (e : Same P P') : ∀ {ds : List D} {ys : List V}, IsA K cl P ds ys → IsA K cl P' ds ys
  | [], ys, h => by unfold IsA at h ⊢; exact h
  | d :: ds, ys, h => by
    unfold IsA at h ⊢
    obtain ⟨x, r, h1, h2, h3⟩ := h
    exact ⟨x, r, h1, Is.mono e h2, IsA.mono e h3⟩
end
theorem IsA.nil : IsA K cl P [] [] := by unfold IsA; rfl
theorem IsA.cons {d : D} {ds : List D} {x : V} {xs : List V} (h : Is K cl P d x) (t : IsA K cl P ds xs) : IsA K cl P (d :: ds) (x :: xs) := by
  unfold IsA; exact ⟨x, xs, rfl, h, t⟩
theorem IsA.nil_inv {xs : List V} (h : IsA K cl P [] xs) : xs = [] := by unfold IsA at h; exact h
theorem IsA.cons_inv {d : D} {ds : List D} {xs : List V} (h : IsA K cl P (d :: ds) xs) : ∃ x r, xs = x :: r ∧ Is K cl P d x ∧ IsA K cl P ds r := by unfold IsA at h; exact h
theorem IsA.length : ∀ {ds : List D} {xs : List V}, IsA K cl P ds xs → xs.length = ds.length
  | [], xs, h => by rw [h.nil_inv]; rfl
  | d :: ds, xs, h => by
    obtain ⟨x, r, rfl, _, t⟩ := h.cons_inv
    simp [IsA.length t]
theorem IsA.get : ∀ {ds : List D} {xs : List V} {i : Nat} {d : D}, IsA K cl P ds xs → ds[i]? = some d → ∃ x, xs[i]? = some x ∧ Is K cl P d x
  | [], _, _, _, _, e => by simp at e
  | d :: ds, xs, i, d', h, e => by
    obtain ⟨x, r, rfl, h1, t⟩ := h.cons_inv
    cases i with
    | zero => simp at e; subst e; exact ⟨x, rfl, h1⟩
    | succ i => 
      obtain ⟨x', h2, h3⟩ := IsA.get (i := i) t (by simpa using e)
      exact ⟨x', by simpa using h2, h3⟩
theorem IsA.get' {ds : List D} {xs : List V} {i : Nat} {x : V} (h : IsA K cl P ds xs) (e : xs[i]? = some x) : ∃ d, ds[i]? = some d ∧ Is K cl P d x := by
  have hl := h.length
  have hi : i < ds.length := by
    have := (List.getElem?_eq_some_iff.mp e).1
    omega
  obtain ⟨x', h1, h2⟩ := h.get (List.getElem?_eq_getElem hi)
  rw [e] at h1; cases h1
  exact ⟨_, List.getElem?_eq_getElem hi, h2⟩
theorem IsA.append : ∀ {ds es : List D} {xs ys : List V}, IsA K cl P ds xs → IsA K cl P es ys → IsA K cl P (ds ++ es) (xs ++ ys)
  | [], es, xs, ys, h, t => by rw [h.nil_inv]; exact t
  | d :: ds, es, xs, ys, h, t => by
    obtain ⟨x, r, rfl, h1, h2⟩ := h.cons_inv
    exact .cons h1 (h2.append t)
theorem IsA.take : ∀ {ds : List D} {xs : List V} (n : Nat), IsA K cl P ds xs → IsA K cl P (ds.take n) (xs.take n)
  | _, _, 0, _ => .nil
  | [], xs, n + 1, h => by rw [h.nil_inv]; exact .nil
  | d :: ds, xs, n + 1, h => by
    obtain ⟨x, r, rfl, h1, h2⟩ := h.cons_inv
    exact .cons h1 (h2.take n)
theorem IsA.drop : ∀ {ds : List D} {xs : List V} (n : Nat), IsA K cl P ds xs → IsA K cl P (ds.drop n) (xs.drop n)
  | _, _, 0, h => h
  | [], xs, n + 1, h => by rw [h.nil_inv]; exact .nil
  | d :: ds, xs, n + 1, h => by
    obtain ⟨x, r, rfl, h1, h2⟩ := h.cons_inv
    exact h2.drop n
theorem IsA.set : ∀ {ds : List D} {xs : List V} {d : D} {x : V} (i : Nat), Is K cl P d x → IsA K cl P ds xs → IsA K cl P (ds.set i d) (xs.set i x)
  | [], xs, _, _, i, _, h => by rw [h.nil_inv]; exact .nil
  | e :: ds, xs, d, x, 0, hd, h => by
    obtain ⟨x, r, rfl, h1, h2⟩ := h.cons_inv
    exact .cons hd h2
  | e :: ds, xs, d, x, i + 1, hd, h => by
    obtain ⟨x, r, rfl, h1, h2⟩ := h.cons_inv
    exact .cons h1 (h2.set i hd)
theorem IsA.atoms : ∀ {zs : List V} {xs : List V}, IsA K cl P (zs.map D.v) xs → xs = zs
  | [], xs, h => h.nil_inv
  | z :: zs, xs, h => by
    obtain ⟨x, r, rfl, h1, h2⟩ := h.cons_inv
    unfold Is at h1
    rw [h1, IsA.atoms h2]
theorem IsA.of_atoms : ∀ zs : List V, IsA K cl P (zs.map D.v) zs
  | [] => .nil
  | z :: zs => .cons (by unfold Is; rfl) (IsA.of_atoms zs)
theorem Is.v {x : V} : Is K cl P (.v x) x := by unfold Is; rfl
theorem Is.v_inv {x y : V} (h : Is K cl P (.v x) y) : y = x := by unfold Is at h; exact h
theorem Is.kst_inv {ds : List D} {y : V} (h : Is K cl P (.kst ds) y) : ∃ a xs, y = .ref a ∧ SqL K P a xs ∧ IsA K cl P ds xs := by unfold Is at h; exact h
theorem Is.lst_inv {ds : List D} {y : V} (h : Is K cl P (.lst ds) y) : ∃ a xs, y = .ref a ∧ P a = some (.lst xs) ∧ IsA K cl P ds xs := by unfold Is at h; exact h
theorem Is.tup_inv {ds : List D} {y : V} (h : Is K cl P (.tup ds) y) : ∃ a xs, y = .ref a ∧ SqT K P a xs ∧ IsA K cl P ds xs := by unfold Is at h; exact h
theorem Is.dic_inv {ks : List Key} {ds : List D} {y : V} (h : Is K cl P (.dic ks ds) y) : ∃ a kvs, y = .ref a ∧ P a = some (.dK kvs) ∧ kvs.map (·.1) = ks ∧ IsA K cl P ds (kvs.map (·.2)) := by unfold Is at h; exact h
theorem Is.obj_inv {c : Nat} {ns : List Str} {ds : List D} {y : V} (h : Is K cl P (.obj c ns ds) y) : ∃ a dx fs, y = .ref a ∧ P a = some (.ins (cl c) dx fs) ∧ fs.map (·.1) = ns ∧ IsA K cl P ds (fs.map (·.2)) := by unfold Is at h; exact h
theorem Is.stk_inv {y : V} (h : Is K cl P .stk y) : ∃ a, y = .ref a ∧ P a = some (stkO a) := by unfold Is at h; exact h
theorem Is.kst {ds : List D} {a : Addr} {xs : List V} (h : SqL K P a xs) (t : IsA K cl P ds xs) : Is K cl P (.kst ds) (.ref a) := by unfold Is; exact ⟨a, xs, rfl, h, t⟩
theorem Is.lst {ds : List D} {a : Addr} {xs : List V} (h : P a = some (.lst xs)) (t : IsA K cl P ds xs) : Is K cl P (.lst ds) (.ref a) := by unfold Is; exact ⟨a, xs, rfl, h, t⟩
theorem Is.tup {ds : List D} {a : Addr} {xs : List V} (h : SqT K P a xs) (t : IsA K cl P ds xs) : Is K cl P (.tup ds) (.ref a) := by unfold Is; exact ⟨a, xs, rfl, h, t⟩
theorem Is.dic {ks : List Key} {ds : List D} {a : Addr} {kvs : List (Key × V)} (h : P a = some (.dK kvs)) (k : kvs.map (·.1) = ks) (t : IsA K cl P ds (kvs.map (·.2))) : Is K cl P (.dic ks ds) (.ref a) := by unfold Is; exact ⟨a, kvs, rfl, h, k, t⟩
theorem Is.obj {c : Nat} {ns : List Str} {ds : List D} {a dx : Addr} {fs : List (Str × V)} (h : P a = some (.ins (cl c) dx fs)) (k : fs.map (·.1) = ns) (t : IsA K cl P ds (fs.map (·.2))) : Is K cl P (.obj c ns ds) (.ref a) := by unfold Is; exact ⟨a, dx, fs, rfl, h, k, t⟩
theorem Is.ref_of {d : D} {y : V} (h : Is K cl P d y) (n : ∀ x, d ≠ .v x) : ∃ a, y = .ref a := by
  cases d with
  | v x => exact absurd rfl (n x)
  | lst ds => obtain ⟨a, _, e, _⟩ := h.lst_inv; exact ⟨a, e⟩
  | kst ds => obtain ⟨a, _, e, _⟩ := h.kst_inv; exact ⟨a, e⟩
  | tup ds => obtain ⟨a, _, e, _⟩ := h.tup_inv; exact ⟨a, e⟩
  | dic ks ds => obtain ⟨a, _, e, _⟩ := h.dic_inv; exact ⟨a, e⟩
  | obj c ns ds => obtain ⟨a, _, _, e, _⟩ := h.obj_inv; exact ⟨a, e⟩
  | stk => obtain ⟨a, e, _⟩ := h.stk_inv; exact ⟨a, e⟩
end

inductive Sl where
  | no
  | d (x : D)
inductive Ob where
  | lst (xs : List D)
  | dic (ks : List Key) (vs : List D)
  | dtp (ks : List (List Key)) (vs : List D)
  | ins (c : Nat) (dx : Addr) (ns : List Str) (vs : List D)
abbrev Mm := Addr → Option Ob
def m0 : Mm := fun _ => none
structure DS where
  s : List Sl
  m : Mm
@[simp] def DS.set (Γ : DS) (i : Nat) (x : Sl) : DS := ⟨Γ.s.set i x, Γ.m⟩
@[simp] def DS.put (Γ : DS) (a : Addr) (o : Option Ob) : DS := ⟨Γ.s, fun b => if b = a then o else Γ.m b⟩
def SlAt (K : PySem.W.Frag) (cl : Nat → Addr) (P : Hp) : Sl → Option V → Prop
  | .no, _ => True
  | .d x, o => ∃ v, o = some v ∧ Is K cl P x v
def ObAt (K : PySem.W.Frag) (cl : Nat → Addr) (P H : Hp) (a : Addr) : Ob → Prop
  | .lst ds => ∃ xs, H a = some (.lst xs) ∧ IsA K cl P ds xs
  | .dic ks ds => ∃ kvs, H a = some (.dK kvs) ∧ kvs.map (·.1) = ks ∧ IsA K cl P ds (kvs.map (·.2))
  | .dtp ks ds => ∃ kvs, H a = some (.dT kvs) ∧ kvs.map (·.1) = ks ∧ IsA K cl P ds (kvs.map (·.2))
  | .ins c dx ns ds => ∃ fs, H a = some (.ins (cl c) dx fs) ∧ fs.map (·.1) = ns ∧ IsA K cl P ds (fs.map (·.2))
def NoT (P : Hp) : Prop := ∀ a ps, P a ≠ some (.tbl ps)
abbrev ExtN (H H' : Hp) : Prop := LamX.ExtN H H'
theorem ExtN.same {H H' : Hp} (h : Same H H') : ExtN H H' := fun a o e _ => h a o e
theorem ObAt.at_ {K : PySem.W.Frag} {cl : Nat → Addr} {P H : Hp} {a : Addr} {b : Ob} (h : ObAt K cl P H a b) : ∃ o, H a = some o ∧ ∀ ps, o ≠ .tbl ps := by
  cases b with
  | lst ds => obtain ⟨xs, e, _⟩ := h; exact ⟨_, e, fun ps => nofun⟩
  | dic ks ds => obtain ⟨xs, e, _⟩ := h; exact ⟨_, e, fun ps => nofun⟩
  | dtp ks ds => obtain ⟨xs, e, _⟩ := h; exact ⟨_, e, fun ps => nofun⟩
  | ins c dx ns ds => obtain ⟨xs, e, _⟩ := h; exact ⟨_, e, fun ps => nofun⟩
theorem ObAt.move {K : PySem.W.Frag} {cl : Nat → Addr} {P P' H H' : Hp} {a : Addr} {b : Ob} (h : ObAt K cl P H a b) (p : Same P P') (e : ∀ o, H a = some o → (∀ ps, o ≠ .tbl ps) → H' a = some o) : ObAt K cl P' H' a b := by
  cases b with
  | lst ds => obtain ⟨xs, h1, h2⟩ := h; exact ⟨xs, e _ h1 (fun ps => nofun), h2.mono p⟩
  | dic ks ds => obtain ⟨xs, h1, h2, h3⟩ := h; exact ⟨xs, e _ h1 (fun ps => nofun), h2, h3.mono p⟩
  | dtp ks ds => obtain ⟨xs, h1, h2, h3⟩ := h; exact ⟨xs, e _ h1 (fun ps => nofun), h2, h3.mono p⟩
  | ins c dx ns ds => obtain ⟨xs, h1, h2, h3⟩ := h; exact ⟨xs, e _ h1 (fun ps => nofun), h2, h3.mono p⟩

structure Rep (E : DC) (P H : Hp) (σ : L2.St) (Γ : DS) : Prop where
  sub : Same P H
  nt : NoT P
  tb : NdefX.TabsN E.T H
  p0 : Same E.P0 P
  h0 : ∀ a o, E.H0 a = some o → (∀ ps, o ≠ .tbl ps) → ¬ E.io a → H a = some o
  dm : ∀ a o, E.H0 a = some o → ∃ o', H a = some o'
  new : ∀ a o, P a = some o → (∃ o', E.P0 a = some o') ∨ E.H0 a = none ∨ E.io a
  len : σ.length = Γ.s.length
  sl : ∀ (i : Nat) s o, Γ.s[i]? = some s → σ[i]? = some o → SlAt E.K E.cl P s o
  st : ∀ a b, Γ.m a = some b → P a = none ∧ ObAt E.K E.cl P H a b ∧ (E.H0 a = none ∨ E.io a)

structure Gr (σ : L2.St) (Γ : DS) (P H : Hp) (Γ' : DS) (P' H' : Hp) : Prop where
  p : Same P P'
  n : ∀ a o, P' a = some o → (∃ o', P a = some o') ∨ H a = none ∨ ∃ b, Γ.m a = some b
  k : ∀ a o, H a = some o → (∀ ps, o ≠ .tbl ps) → Γ.m a = none → H' a = some o
  dm : ∀ a o, H a = some o → ∃ o', H' a = some o'
  o : ∀ a b, Γ'.m a = some b → (∃ b', Γ.m a = some b') ∨ H a = none

theorem Gr.refl {σ : L2.St} {Γ : DS} {P H : Hp} : Gr σ Γ P H Γ P H :=
  ⟨Same.refl _, fun a o h => .inl ⟨o, h⟩, fun _ _ h _ _ => h, fun _ o h => ⟨o, h⟩, fun _ b h => .inl ⟨b, h⟩⟩
theorem Gr.re {σ σ' : L2.St} {Γ Γ' : DS} {P P' H H' : Hp} (g : Gr σ Γ P H Γ' P' H') : Gr σ' Γ P H Γ' P' H' := ⟨g.p, g.n, g.k, g.dm, g.o⟩
theorem none_of_dm {H H' : Hp} (dm : ∀ a o, H a = some o → ∃ o', H' a = some o') {a : Addr} (h : H' a = none) : H a = none := by
  cases q : H a with
  | none => rfl
  | some o =>
    obtain ⟨o', e⟩ := dm a o q
    rw [h] at e; cases e
theorem Gr.trans {σ : L2.St} {Γ Γ1 Γ2 : DS} {P P1 P2 H H1 H2 : Hp} (a : Gr σ Γ P H Γ1 P1 H1) (b : Gr σ Γ1 P1 H1 Γ2 P2 H2) : Gr σ Γ P H Γ2 P2 H2 where
  p := a.p.trans b.p
  n := fun x o h => by
    rcases b.n x o h with ⟨o', h1⟩ | h1 | ⟨c, h1⟩
    · exact a.n x o' h1
    · exact .inr (.inl (none_of_dm a.dm h1))
    · rcases a.o x c h1 with h2 | h2
      · exact .inr (.inr h2)
      · exact .inr (.inl h2)
  k := fun x o h t n => b.k x o (a.k x o h t n) t (by
    cases q : Γ1.m x with
    | none => rfl
    | some c =>
      rcases a.o x c q with ⟨b', e⟩ | e
      · rw [n] at e; cases e
      · rw [h] at e; cases e)
  dm := fun x o h => by
    obtain ⟨o', h'⟩ := a.dm x o h
    exact b.dm x o' h'
  o := fun x c h => by
    rcases b.o x c h with ⟨b', e⟩ | e
    · exact a.o x b' e
    · exact .inr (none_of_dm a.dm e)

structure XD where
  c : Nat
  ns : List Str
  ds : List D
def XIs (K : PySem.W.Frag) (cl : Nat → Addr) (P H : Hp) (x : XD) (cls : Value) (d : Option Addr) : Prop :=
  cls = .ref (cl (100 + x.c)) ∧ ((x.ns = [] ∧ x.ds = []) ∨ ∃ dd fs, d = some dd ∧ P dd = some (.xd fs) ∧ fs.map (·.1) = x.ns ∧ IsA K cl P x.ds (fs.map (·.2)))

abbrev XC := XD → DS → Prop
abbrev DE := XC → DS → (D → DS → Prop) → Prop
abbrev DF := XC → DS → (List D → DS → Prop) → Prop
abbrev DT := XC → DS → (Bool → DS → Prop) → Prop
abbrev DA := XC → DS → (List D → DS → Prop) → Prop
structure DEnds where
  nx : DS → Prop
  rt : D → DS → Prop
  ex : XC
  bk : DS → Prop := fun _ => False
  ct : DS → Prop := fun _ => False
abbrev DST := DEnds → DS → Prop

def XL (E : DC) (W : WX) (σ : L2.St) (x : XC) : Prop := ∀ (e : XD) Γ' P' H' cls d, Rep E P' H' σ Γ' → XIs E.K E.cl P' H' e cls d → x e Γ' → W cls d σ H'

def up (E : DC) (W : WX) (T : DE) : TE := fun σ H Q => ∃ P Γ x Qd, Rep E P H σ Γ ∧ T x Γ Qd ∧ XL E W σ x ∧
  ∀ d Γ' v P' H', Gr σ Γ P H Γ' P' H' → Rep E P' H' σ Γ' → Is E.K E.cl P' d v → Qd d Γ' → Q v H'
def upT (E : DC) (W : WX) (T : DT) : TT := fun σ H Q => ∃ P Γ x Qd, Rep E P H σ Γ ∧ T x Γ Qd ∧ XL E W σ x ∧
  ∀ b Γ' P' H', Gr σ Γ P H Γ' P' H' → Rep E P' H' σ Γ' → Qd b Γ' → Q b H'
def upA (E : DC) (W : WX) (T : DA) : TA := fun σ H Q => ∃ P Γ x Qd, Rep E P H σ Γ ∧ T x Γ Qd ∧ XL E W σ x ∧
  ∀ ds Γ' vs P' H', Gr σ Γ P H Γ' P' H' → Rep E P' H' σ Γ' → IsA E.K E.cl P' ds vs → Qd ds Γ' → Q vs H'
def upF (E : DC) (W : WX) (T : DF) : TE := fun σ H Q => ∃ P Γ x Qd, Rep E P H σ Γ ∧ T x Γ Qd ∧ XL E W σ x ∧
  ∀ ds Γ' a vs P' H', Gr σ Γ P H Γ' P' H' → Rep E P' H' σ Γ' → P' a = none → Γ'.m a = none → H a = none → E.H0 a = none → H' a = some (.lst vs) → IsA E.K E.cl P' ds vs → Qd ds Γ' → Q (.ref a) H'
structure SLk (E : DC) (W : WX) (P : Hp) (De : DEnds) (D : Ends) : Prop where
  nx : ∀ σ' Γ' P' H', Same P P' → Rep E P' H' σ' Γ' → De.nx Γ' → D.nx σ' H'
  rt : ∀ d v σ' Γ' P' H', Same P P' → Rep E P' H' σ' Γ' → Is E.K E.cl P' d v → De.rt d Γ' → D.rt v H'
  bk : ∀ σ' Γ' P' H', Same P P' → Rep E P' H' σ' Γ' → De.bk Γ' → D.bk σ' H'
  ct : ∀ σ' Γ' P' H', Same P P' → Rep E P' H' σ' Γ' → De.ct Γ' → D.ct σ' H'
  ex : ∀ σ', XL E W σ' De.ex
def upS (E : DC) (W : WX) (T : DST) : TS := fun D σ H => ∃ P Γ De, Rep E P H σ Γ ∧ T De Γ ∧ SLk E W P De D
end DL

namespace DL
open PySem L2

section
variable {E : DC} {W : WX} {P P' H H' : Hp} {σ : L2.St} {Γ Γ' : DS}
theorem Rep.get (R : Rep E P H σ Γ) {i : Nat} {d : D} (h : Γ.s[i]? = some (.d d)) : ∃ v, σ[i]? = some (some v) ∧ Is E.K E.cl P d v := by
  have hi : i < σ.length := by rw [R.len]; exact (List.getElem?_eq_some_iff.mp h).1
  obtain ⟨v, e, q⟩ := R.sl i _ σ[i] h (List.getElem?_eq_getElem hi)
  exact ⟨v, by rw [List.getElem?_eq_getElem hi, e], q⟩
theorem SlAt.mono {K : PySem.W.Frag} {cl : Nat → Addr} {s : Sl} {o : Option V} (h : SlAt K cl P s o) (p : Same P P') : SlAt K cl P' s o := by
  cases s with
  | no => trivial
  | d x => obtain ⟨v, e, q⟩ := h; exact ⟨v, e, q.mono p⟩
theorem Rep.own (R : Rep E P H σ Γ) {a : Addr} {b : Ob} (h : Γ.m a = some b) : ∃ o, H a = some o ∧ ∀ ps, o ≠ .tbl ps := (R.st a b h).2.1.at_
theorem Rep.mnone (R : Rep E P H σ Γ) {a : Addr} (h : H a = none) : Γ.m a = none := by
  cases q : Γ.m a with
  | none => rfl
  | some b => obtain ⟨o, e, _⟩ := R.own q; rw [h] at e; cases e
theorem Rep.mknown (R : Rep E P H σ Γ) {a : Addr} {o : HO} (h : P a = some o) : Γ.m a = none := by
  cases q : Γ.m a with
  | none => rfl
  | some b => have := (R.st a b q).1; rw [h] at this; cases this
theorem Rep.grow (R : Rep E P H σ Γ) (p : Same P P') (sub : Same P' H') (nt : NoT P') (tb : NdefX.TabsN E.T H') (h : ExtN H H') (dm : ∀ a o, H a = some o → ∃ o', H' a = some o') (n : ∀ a o, P' a = some o → (∃ o', P a = some o') ∨ H a = none) : Rep E P' H' σ Γ where
  sub := sub
  nt := nt
  tb := tb
  p0 := R.p0.trans p
  h0 := fun a o e t hn => h a o (R.h0 a o e t hn) t
  dm := fun a o e => by
    obtain ⟨o', e'⟩ := R.dm a o e
    exact dm a o' e'
  new := fun a o e => by
    rcases n a o e with ⟨o', e'⟩ | e'
    · exact R.new a o' e'
    · exact .inr (.inl (none_of_dm R.dm e'))
  len := R.len
  sl := fun i s o e1 e2 => (R.sl i s o e1 e2).mono p
  st := fun a b e => by
    obtain ⟨h1, h2, h3⟩ := R.st a b e
    refine ⟨?_, h2.move p (h a), h3⟩
    cases z : P' a with
    | none => rfl
    | some u =>
      rcases n a u z with ⟨o', e'⟩ | e'
      · rw [h1] at e'; cases e'
      · obtain ⟨o, e2, _⟩ := h2.at_; rw [e'] at e2; cases e2
theorem Gr.grow (p : Same P P') (h : ExtN H H') (dm : ∀ a o, H a = some o → ∃ o', H' a = some o') (n : ∀ a o, P' a = some o → (∃ o', P a = some o') ∨ H a = none) : Gr σ Γ P H Γ P' H' where
  p := p
  n := fun a o e => (n a o e).elim .inl fun z => .inr (.inl z)
  k := fun a o e t _ => h a o e t
  dm := dm
  o := fun _ b z => .inl ⟨b, z⟩
theorem same_upd {p : Addr} {o : HO} (h : H p = none) : Same H (upd H p o) := fun b u q => by rw [upd_ne (ne_of_none q h)]; exact q
theorem same_dm (h : Same H H') : ∀ a o, H a = some o → ∃ o', H' a = some o' := fun a o e => ⟨o, h a o e⟩
theorem sub_upd {p : Addr} {o : HO} (s : Same P H) (h : H p = none) : Same (upd P p o) (upd H p o) := fun b u q => by
  by_cases e : b = p
  · subst e; rw [upd_same] at q ⊢; exact q
  · rw [upd_ne e] at q ⊢; exact s b u q
theorem nt_upd {p : Addr} {o : HO} (h : NoT P) (ho : ∀ ps, o ≠ .tbl ps) : NoT (upd P p o) := fun a ps q => by
  by_cases e : a = p
  · subst e; rw [upd_same] at q; exact ho ps (Option.some.inj q)
  · rw [upd_ne e] at q; exact h a ps q
theorem Rep.pnone (R : Rep E P H σ Γ) {p : Addr} (h : H p = none) : P p = none := R.sub.free h
theorem Rep.h0none (R : Rep E P H σ Γ) {p : Addr} (h : H p = none) : E.H0 p = none := none_of_dm R.dm h
theorem new_upd {p : Addr} {o : HO} (h : H p = none) : ∀ a u, upd P p o a = some u → (∃ o', P a = some o') ∨ H a = none := fun a u q => by
  by_cases e : a = p
  · subst e; exact .inr h
  · rw [upd_ne e] at q; exact .inl ⟨u, q⟩
theorem Rep.alloc (R : Rep E P H σ Γ) {p : Addr} (o : HO) (h : H p = none) (ho : ∀ ps, o ≠ .tbl ps := by intro ps; nofun) : Rep E (upd P p o) (upd H p o) σ Γ :=
  R.grow (same_upd (R.pnone h)) (sub_upd R.sub h) (nt_upd R.nt ho) (R.tb.ext (same_upd h)) (.same (same_upd h)) (same_dm (same_upd h)) (new_upd h)
theorem Gr.alloc (R : Rep E P H σ Γ) {p : Addr} (o : HO) (h : H p = none) : Gr σ Γ P H Γ (upd P p o) (upd H p o) :=
  .grow (same_upd (R.pnone h)) (.same (same_upd h)) (same_dm (same_upd h)) (new_upd h)
theorem Rep.fresh (R : Rep E P H σ Γ) {p : Addr} (o : HO) (h : H p = none) : Rep E P (upd H p o) σ Γ :=
  R.grow (Same.refl P) (R.sub.trans (same_upd h)) R.nt (R.tb.ext (same_upd h)) (.same (same_upd h)) (same_dm (same_upd h)) fun a o' e => .inl ⟨o', e⟩
theorem Gr.fresh {p : Addr} (o : HO) (h : H p = none) : Gr σ Γ P H Γ P (upd H p o) :=
  .grow (Same.refl P) (.same (same_upd h)) (same_dm (same_upd h)) fun a o' e => .inl ⟨o', e⟩
theorem Rep.know (R : Rep E P H σ Γ) {p : Addr} {o : HO} (h : H p = some o) (ho : ∀ ps, o ≠ .tbl ps) (hp : P p = none) (h0 : E.H0 p = none ∨ E.io p) (no : Γ.m p = none) : Rep E (upd P p o) H σ Γ where
  sub := fun b u q => by
    by_cases e : b = p
    · subst e; rw [upd_same] at q; cases q; exact h
    · rw [upd_ne e] at q; exact R.sub b u q
  nt := nt_upd R.nt ho
  tb := R.tb
  p0 := R.p0.trans (same_upd hp)
  h0 := R.h0
  dm := R.dm
  new := fun a u q => by
    by_cases e : a = p
    · subst e; exact .inr h0
    · rw [upd_ne e] at q; exact R.new a u q
  len := R.len
  sl := fun i s o' e1 e2 => (R.sl i s o' e1 e2).mono (same_upd hp)
  st := fun a b e => by
    obtain ⟨h1, h2, h3⟩ := R.st a b e
    have ne : a ≠ p := fun z => by subst z; rw [no] at e; cases e
    exact ⟨by rw [upd_ne ne]; exact h1, h2.move (same_upd hp) fun o e _ => e, h3⟩
theorem Rep.drop (R : Rep E P H σ Γ) (a : Addr) : Rep E P H σ (Γ.put a none) where
  sub := R.sub
  nt := R.nt
  tb := R.tb
  p0 := R.p0
  h0 := R.h0
  dm := R.dm
  new := R.new
  len := R.len
  sl := R.sl
  st := fun b o e => by
    simp only [DS.put] at e
    by_cases z : b = a
    · rw [if_pos z] at e; cases e
    · rw [if_neg z] at e; exact R.st b o e
theorem Rep.own_put (R : Rep E P H σ Γ) {a : Addr} {b : Ob} {H' : Hp} (pa : P a = none) (ha : ∀ c, c ≠ a → H' c = H c) (na : ∀ ps, H a ≠ some (.tbl ps)) (nx : ∀ φ, H a ≠ some (.ext φ)) (ob : ObAt E.K E.cl P H' a b) (h0 : E.H0 a = none ∨ E.io a) : Rep E P H' σ (Γ.put a (some b)) where
  sub := fun c u q => by
    have e : c ≠ a := fun z => by subst z; rw [pa] at q; cases q
    rw [ha c e]; exact R.sub c u q
  nt := R.nt
  tb := fun p hp => by
    obtain ⟨ps, h1, h2, h3⟩ := R.tb p hp
    have e1 : p.1 ≠ a := fun z => by rw [z] at h1; exact na ps h1
    refine ⟨ps, by rw [ha _ e1]; exact h1, h2, fun pos cv hc => ?_⟩
    obtain ⟨c, e2, e3⟩ := h3 pos cv hc
    refine ⟨c, e2, ?_⟩
    by_cases z : c = a
    · exfalso
      subst z
      exact nx _ e3
    · rw [ha c z]; exact e3
  p0 := R.p0
  h0 := fun c u q t n => by
    have e : c ≠ a := fun z => by
      subst z
      rcases h0 with z | z
      · rw [z] at q; cases q
      · exact n z
    rw [ha c e]; exact R.h0 c u q t n
  dm := fun c u q => by
    by_cases e : c = a
    · subst e; obtain ⟨o, e, _⟩ := ob.at_; exact ⟨o, e⟩
    · rw [ha c e]; exact R.dm c u q
  new := R.new
  len := R.len
  sl := R.sl
  st := fun c o e => by
    simp only [DS.put] at e
    by_cases z : c = a
    · subst z; rw [if_pos rfl] at e; cases e; exact ⟨pa, ob, h0⟩
    · rw [if_neg z] at e
      obtain ⟨h1, h2, h3⟩ := R.st c o e
      exact ⟨h1, h2.move (Same.refl P) (fun o e _ => by rw [ha c z]; exact e), h3⟩
theorem XL.set {x : XC} (h : XL E W σ x) : XL E W σ x := h

@[simp] def dVar (i : Nat) : DE := fun x Γ Q => match Γ.s[i]? with
  | some (.d d) => Q d Γ
  | _ => False
@[simp] def dC (d : V) : DE := fun x Γ Q => Q (.v d) Γ
variable {X : Cx}
theorem de_var (i : Nat) {x : Str} {pos : Pos} (hN : X.N[i]? = some x := by rfl) (hv : Vis X.env.scope x := by first | exact Or.inl rfl | exact Or.inr (Or.inl rfl) | exact Or.inr (Or.inr rfl)) (hd : (x == ("__debug__" : Str)) = false := by decide)
    (hcd : (x == ("__classdict__" : Str)) = false := by decide) : PE X (.Name x pos) (up E W (dVar i)) := by
  refine ⟨fun pins s σ H Q I h => ?_⟩
  obtain ⟨P, Γ, x', Qd, R, hT, _, hQ⟩ := h
  unfold dVar at hT
  split at hT
  · rename_i d e
    obtain ⟨v, e1, q⟩ := R.get e
    exact (pv i hN hv hd hcd).run pins s σ H Q I ⟨v, e1, hQ d Γ v P H .refl R q hT⟩
  · exact hT.elim
theorem cDE {e : Expr} {v : V} (h : PE X e (tC v)) : PE X e (up E W (dC v)) := by
  refine ⟨fun pins s σ H Q I hh => ?_⟩
  obtain ⟨P, Γ, x', Qd, R, hT, _, hQ⟩ := hh
  exact h.run pins s σ H Q I (hQ _ Γ v P H .refl R .v hT)
theorem de_int {i j pos} : PE X (.Constant (.int i) j pos) (up E W (dC (.int i))) := cDE pe_int
theorem de_bl {b j pos} : PE X (.Constant (.bool b) j pos) (up E W (dC (.bl b))) := cDE pe_bl
theorem de_non {j pos} : PE X (.Constant .none j pos) (up E W (dC .non)) := cDE pe_non
theorem de_str {x j pos} : PE X (.Constant (.str x) j pos) (up E W (dC (.str x))) := cDE pe_str

abbrev R1D := D → (D → Prop) → Prop
abbrev R2D := D → D → (D → Prop) → Prop
abbrev RND := List D → (D → Prop) → Prop
def Lk2 (E : DC) (r : R2) (R : R2D) : Prop := ∀ (P H : Hp) (σ : L2.St) (Γ : DS) (d1 d2 : D) (v1 v2 : V) (Q : VK) (Qd : D → Prop), Rep E P H σ Γ → Is E.K E.cl P d1 v1 → Is E.K E.cl P d2 v2 → R d1 d2 Qd →
  (∀ d v P' H', Gr σ Γ P H Γ P' H' → Rep E P' H' σ Γ → Is E.K E.cl P' d v → Qd d → Q v H') → r v1 v2 H Q
def Lk1 (E : DC) (r : V → Hp → VK → Prop) (R : R1D) : Prop := ∀ (P H : Hp) (σ : L2.St) (Γ : DS) (d1 : D) (v1 : V) (Q : VK) (Qd : D → Prop), Rep E P H σ Γ → Is E.K E.cl P d1 v1 → R d1 Qd →
  (∀ d v P' H', Gr σ Γ P H Γ P' H' → Rep E P' H' σ Γ → Is E.K E.cl P' d v → Qd d → Q v H') → r v1 H Q
def LkN (E : DC) (r : List V → Hp → VK → Prop) (R : RND) : Prop := ∀ (P H : Hp) (σ : L2.St) (Γ : DS) (ds : List D) (vs : List V) (Q : VK) (Qd : D → Prop), Rep E P H σ Γ → IsA E.K E.cl P ds vs → R ds Qd →
  (∀ d v P' H', Gr σ Γ P H Γ P' H' → Rep E P' H' σ Γ → Is E.K E.cl P' d v → Qd d → Q v H') → r vs H Q
def LkF (E : DC) (r : List V → Hp → VK → Prop) (R : List D → (List D → Prop) → Prop) : Prop := ∀ (P H : Hp) (σ : L2.St) (Γ : DS) (ds : List D) (vs : List V) (Q : VK) (Qd : List D → Prop), Rep E P H σ Γ → IsA E.K E.cl P ds vs → R ds Qd →
  (∀ es p ws H', Gr σ Γ P H Γ P H' → Rep E P H' σ Γ → H p = none → H' p = some (.lst ws) → IsA E.K E.cl P es ws → Qd es → Q (.ref p) H') → r vs H Q

@[simp] def dOp (R : R2D) (ta tb : DE) : DE := fun x Γ Q => ta x Γ fun d1 Γ1 => tb x Γ1 fun d2 Γ2 => R d1 d2 fun d => Q d Γ2
@[simp] def dUn (R : R1D) (ta : DE) : DE := fun x Γ Q => ta x Γ fun d1 Γ1 => R d1 fun d => Q d Γ1
theorem up_op {r : R2} {R : R2D} {ta tb : DE} (L : Lk2 E r R) {Q : VK} (h : up E W (dOp R ta tb) σ H Q) : tOp r (up E W ta) (up E W tb) σ H Q := by
  obtain ⟨P, Γ, x, Qd, Rp, hT, hx, hQ⟩ := h
  refine ⟨P, Γ, x, _, Rp, hT, hx, fun d1 Γ1 v1 P1 H1 g1 R1 i1 h1 => ?_⟩
  refine ⟨P1, Γ1, x, _, R1, h1, hx, fun d2 Γ2 v2 P2 H2 g2 R2 i2 h2 => ?_⟩
  exact L P2 H2 σ Γ2 d1 d2 v1 v2 Q _ R2 (i1.mono g2.p) i2 h2 fun d v P3 H3 g3 R3 i3 h3 => hQ d Γ2 v P3 H3 (g1.trans (g2.trans g3)) R3 i3 h3
theorem up_un {r : V → Hp → VK → Prop} {R : R1D} {ta : DE} (L : Lk1 E r R) {Q : VK} (h : up E W (dUn R ta) σ H Q) : tUn r (up E W ta) σ H Q := by
  obtain ⟨P, Γ, x, Qd, Rp, hT, hx, hQ⟩ := h
  refine ⟨P, Γ, x, _, Rp, hT, hx, fun d1 Γ1 v1 P1 H1 g1 R1 i1 h1 => ?_⟩
  exact L P1 H1 σ Γ1 d1 v1 Q _ R1 i1 h1 fun d v P3 H3 g3 R3 i3 h3 => hQ d Γ1 v P3 H3 (g1.trans g3) R3 i3 h3
theorem impE {e : Expr} {t t' : TE} (h : PE X e t) (k : ∀ σ H Q, t' σ H Q → t σ H Q) : PE X e t' := ⟨fun pins s σ H Q I hh => h.run pins s σ H Q I (k σ H Q hh)⟩
theorem impT {e : Expr} {t t' : TT} (h : PT X e t) (k : ∀ σ H Q, t' σ H Q → t σ H Q) : PT X e t' := ⟨fun pins s σ H Q I hh => h.run pins s σ H Q I (k σ H Q hh)⟩
theorem impW {e : Expr} {t t' : TT} (h : PW X e t) (k : ∀ σ H Q, t' σ H Q → t σ H Q) : PW X e t' := ⟨fun wh pins s σ H Q I hh => h.run wh pins s σ H Q I (k σ H Q hh)⟩
theorem impA {e : List Expr} {t t' : TA} (h : PA X e t) (k : ∀ σ H Q, t' σ H Q → t σ H Q) : PA X e t' := ⟨fun pos pins s σ H Q I hh => h.run pos pins s σ H Q I (k σ H Q hh)⟩
theorem impS {e : Stmt} {t t' : TS} (h : PS X e t) (k : ∀ D σ H, t' D σ H → t D σ H) : PS X e t' := ⟨fun pins s σ H D I hh => h.run pins s σ H D I (k D σ H hh)⟩
theorem impSs {e : List Stmt} {t t' : TS} (h : PSs X e t) (k : ∀ D σ H, t' D σ H → t D σ H) : PSs X e t' := ⟨fun pins s σ H D I hh => h.run pins s σ H D I (k D σ H hh)⟩
variable {a b c e : Expr} {es : List Expr} {ta tb tc te : DE} {pos : Pos}
theorem de_op {op : Operator} {r : R2} {R : R2D} (ho : OpR X (binaryOp op) r) (L : Lk2 E r R) (ha : PE X a (up E W ta)) (hb : PE X b (up E W tb)) : PE X (.BinOp a op b pos) (up E W (dOp R ta tb)) :=
  impE (pe_op ho ha hb) fun _ _ _ h => up_op L h
theorem de_un {op : UnaryOp} {r : V → Hp → VK → Prop} {R : R1D} (ho : UnR X (unaryOp op) r) (L : Lk1 E r R) (ha : PE X a (up E W ta)) : PE X (.UnaryOp op a pos) (up E W (dUn R ta)) :=
  impE (pe_un ho ha) fun _ _ _ h => up_un L h
theorem de_cmp {op : CmpOp} {r : R2} {R : R2D} (ho : OpR X (compareOp op) r) (L : Lk2 E r R) (ha : PE X a (up E W ta)) (hb : PE X b (up E W tb)) (hm : behindInMarks op b = false) : PE X (.Compare a [op] [b] pos) (up E W (dOp R ta tb)) :=
  impE (pe_cmpR ho ha hb hm) fun _ _ _ h => up_op L h

def At2 (r : R2) : Prop := ∀ x y H (Q : V → Prop) (Q' : VK), r x y (fun _ => none) (fun z _ => Q z) → (∀ z, Q z → Q' z H) → r x y H Q'
def rA2 (r : R2) : R2D := fun d1 d2 Q => match d1, d2 with
  | .v x, .v y => r x y (fun _ => none) fun z _ => Q (.v z)
  | _, _ => False
theorem lk_at2 {r : R2} (h : At2 r) : Lk2 E r (rA2 r) := by
  intro P H σ Γ d1 d2 v1 v2 Q Qd R i1 i2 hr hQ
  unfold rA2 at hr
  split at hr
  · rw [i1.v_inv, i2.v_inv]
    exact h _ _ _ _ _ hr fun z q => hQ _ _ P H .refl R .v q
  · exact hr.elim
def At1 (r : V → Hp → VK → Prop) : Prop := ∀ x H (Q : V → Prop) (Q' : VK), r x (fun _ => none) (fun z _ => Q z) → (∀ z, Q z → Q' z H) → r x H Q'
def rA1 (r : V → Hp → VK → Prop) : R1D := fun d1 Q => match d1 with
  | .v x => r x (fun _ => none) fun z _ => Q (.v z)
  | _ => False
theorem lk_at1 {r : V → Hp → VK → Prop} (h : At1 r) : Lk1 E r (rA1 r) := by
  intro P H σ Γ d1 v1 Q Qd R i1 hr hQ
  unfold rA1 at hr
  split at hr
  · rw [i1.v_inv]
    exact h _ _ _ _ hr fun z q => hQ _ _ P H .refl R .v q
  · exact hr.elim
end
end DL

namespace DL
open PySem L2

section
variable {E : DC} {W : WX} {P P' H H' : Hp} {σ : L2.St} {Γ Γ' : DS} {X : Cx}
variable {a b c e : Expr} {es : List Expr} {ta tb tc te : DE} {pos : Pos}

theorem at_rI0 (g : Int → Int → V) : At2 (rI0 g) := fun x y H Q Q' ⟨i, j, h1, h2, q⟩ k => ⟨i, j, h1, h2, k _ q⟩
theorem at_rI (C : Int → Int → Prop) (g : Int → Int → V) : At2 (rI C g) := fun x y H Q Q' ⟨i, j, h1, h2, c, q⟩ k => ⟨i, j, h1, h2, c, k _ q⟩
theorem at_rU (g : Int → V) : At1 (rU g) := fun x H Q Q' ⟨i, h1, q⟩ k => ⟨i, h1, k _ q⟩
@[simp] def dI2 (g : Int → Int → Int) : R2D := fun d1 d2 Q => match d1, d2 with
  | .v (.int i), .v (.int j) => Q (.v (.int (g i j)))
  | _, _ => False
@[simp] def dI2c (C : Int → Int → Prop) (g : Int → Int → Int) : R2D := fun d1 d2 Q => match d1, d2 with
  | .v (.int i), .v (.int j) => C i j ∧ Q (.v (.int (g i j)))
  | _, _ => False
@[simp] def dB2 (g : Int → Int → Bool) : R2D := fun d1 d2 Q => match d1, d2 with
  | .v (.int i), .v (.int j) => Q (.v (.bl (g i j)))
  | _, _ => False
theorem lk_I2 (g : Int → Int → Int) : Lk2 E (rI0 fun i j => .int (g i j)) (dI2 g) := by
  intro P H σ Γ d1 d2 v1 v2 Q Qd R i1 i2 hr hQ
  unfold dI2 at hr
  split at hr
  · rw [i1.v_inv, i2.v_inv]; exact ⟨_, _, rfl, rfl, hQ _ _ P H .refl R .v hr⟩
  · exact hr.elim
theorem lk_I2c (C : Int → Int → Prop) (g : Int → Int → Int) : Lk2 E (rI C fun i j => .int (g i j)) (dI2c C g) := by
  intro P H σ Γ d1 d2 v1 v2 Q Qd R i1 i2 hr hQ
  unfold dI2c at hr
  split at hr
  · rw [i1.v_inv, i2.v_inv]; exact ⟨_, _, rfl, rfl, hr.1, hQ _ _ P H .refl R .v hr.2⟩
  · exact hr.elim
theorem lk_B2 (g : Int → Int → Bool) : Lk2 E (rI0 fun i j => .bl (g i j)) (dB2 g) := by
  intro P H σ Γ d1 d2 v1 v2 Q Qd R i1 i2 hr hQ
  unfold dB2 at hr
  split at hr
  · rw [i1.v_inv, i2.v_inv]; exact ⟨_, _, rfl, rfl, hQ _ _ P H .refl R .v hr⟩
  · exact hr.elim
theorem de_sub (ha : PE X a (up E W ta)) (hb : PE X b (up E W tb)) : PE X (.BinOp a .Sub b pos) (up E W (dOp (dI2 fun i j => i - j) ta tb)) := de_op op_sub (lk_I2 _) ha hb
@[simp] def dMod : R2D := dI2c (fun _ j => 0 < j) fun i j => i % j
@[simp] def dDiv : R2D := dI2c CDiv fun i j => i / j
@[simp] def dPow : R2D := dI2c CPow fun i j => i ^ j.toNat
theorem de_mod (ha : PE X a (up E W ta)) (hb : PE X b (up E W tb)) : PE X (.BinOp a .Mod b pos) (up E W (dOp dMod ta tb)) := de_op op_mod (lk_I2c _ _) ha hb
theorem de_fdiv (ha : PE X a (up E W ta)) (hb : PE X b (up E W tb)) : PE X (.BinOp a .FloorDiv b pos) (up E W (dOp dDiv ta tb)) := de_op op_fdiv (lk_I2c _ _) ha hb
theorem de_pow (ha : PE X a (up E W ta)) (hb : PE X b (up E W tb)) : PE X (.BinOp a .Pow b pos) (up E W (dOp dPow ta tb)) := de_op op_pow (lk_I2c _ _) ha hb
@[simp] def dMul : R2D := fun d1 d2 Q => match d1, d2 with
  | .v (.int i), .v (.int j) => CMul i j ∧ Q (.v (.int (i * j)))
  | .lst xs, .v (.int k) => (-(2 ^ 63) ≤ k ∧ k < 2 ^ 63 ∧ xs.length * k.toNat ≤ sizeLine) ∧ Q (.lst (List.replicate k.toNat xs).flatten)
  | _, _ => False
theorem IsA.rep {K : PySem.W.Frag} {cl : Nat → Addr} {ds : List D} {xs : List V} (h : IsA K cl P ds xs) : ∀ k : Nat, IsA K cl P (List.replicate k ds).flatten (List.replicate k xs).flatten
  | 0 => .nil
  | k + 1 => by
    rw [List.replicate_succ, List.replicate_succ, List.flatten_cons, List.flatten_cons]
    exact h.append (h.rep k)
theorem SqL.upd {K : PySem.W.Frag} {p : Addr} {xs : List V} : SqL K (upd H p (.lst xs)) p xs := .of upd_same
theorem SqT.upd {K : PySem.W.Frag} {p : Addr} {xs : List V} : SqT K (upd H p (.tup xs)) p xs := .of upd_same
end
end DL

namespace DL
open PySem L2

section
variable {E : DC} {W : WX} {P P' H H' : Hp} {σ : L2.St} {Γ Γ' : DS} {X : Cx}
variable {a b c e : Expr} {es : List Expr} {ta tb tc te : DE} {pos : Pos}

theorem IsA.lenEq {K : PySem.W.Frag} {cl : Nat → Addr} {ds : List D} {xs : List V} (h : IsA K cl P ds xs) : xs.length = ds.length := h.length
theorem lk_mul : Lk2 E (fun x y H Q => rI CMul (fun i j => .int (i * j)) x y H Q ∨ rRep x y H Q) dMul := by
  intro P H σ Γ d1 d2 v1 v2 Q Qd R i1 i2 hr hQ
  unfold dMul at hr
  split at hr
  · rw [i1.v_inv, i2.v_inv]; exact .inl ⟨_, _, rfl, rfl, hr.1, hQ _ _ P H .refl R .v hr.2⟩
  · obtain ⟨p, xs, rfl, hp, hx⟩ := i1.lst_inv
    rw [i2.v_inv]
    obtain ⟨⟨h1, h2, h3⟩, hr⟩ := hr
    refine .inr ⟨p, _, xs, rfl, rfl, R.sub _ _ hp, h1, h2, by rw [hx.length]; exact h3, fun q hq => ?_⟩
    exact hQ _ _ _ _ (Gr.alloc R _ hq) (R.alloc _ hq) (.lst upd_same ((hx.mono (Gr.alloc R _ hq).p).rep _)) hr
  · exact hr.elim
theorem de_mul (ha : PE X a (up E W ta)) (hb : PE X b (up E W tb)) : PE X (.BinOp a .Mult b pos) (up E W (dOp dMul ta tb)) := de_op (op_mul.or op_rep) lk_mul ha hb
@[simp] def dAdd : R2D := fun d1 d2 Q => match d1, d2 with
  | .v (.int i), .v (.int j) => Q (.v (.int (i + j)))
  | .v (.str x), .v (.str y) => x.length + y.length ≤ sizeLine ∧ Q (.v (.str (x ++ y)))
  | .lst xs, .lst ys => xs.length + ys.length ≤ sizeLine ∧ Q (.lst (xs ++ ys))
  | .tup xs, .tup ys => xs.length + ys.length ≤ sizeLine ∧ Q (.tup (xs ++ ys))
  | _, _ => False
def rAddS : R2 := fun x y H Q => ∃ i j, x = .str i ∧ y = .str j ∧ i.length + j.length ≤ sizeLine ∧ Q (.str (i ++ j)) H
theorem lk_add : Lk2 E (fun x y H Q => rI0 (fun i j => .int (i + j)) x y H Q ∨ rAddS x y H Q ∨ rCat x y H Q ∨ rCatA E.K x y H Q) dAdd := by
  intro P H σ Γ d1 d2 v1 v2 Q Qd R i1 i2 hr hQ
  unfold dAdd at hr
  split at hr
  · rw [i1.v_inv, i2.v_inv]; exact .inl ⟨_, _, rfl, rfl, hQ _ _ P H .refl R .v hr⟩
  · rw [i1.v_inv, i2.v_inv]; exact .inr (.inl ⟨_, _, rfl, rfl, hr.1, hQ _ _ P H .refl R .v hr.2⟩)
  · obtain ⟨p, xs, rfl, hp, hx⟩ := i1.lst_inv
    obtain ⟨q, ys, rfl, hq, hy⟩ := i2.lst_inv
    refine .inr (.inr (.inl ⟨p, q, xs, ys, rfl, rfl, R.sub _ _ hp, R.sub _ _ hq, by rw [hx.length, hy.length]; exact hr.1, fun r hn => ?_⟩))
    have g := Gr.alloc R (o := .lst (xs ++ ys)) hn
    exact hQ _ _ _ _ g (R.alloc _ hn) (.lst upd_same ((hx.append hy).mono g.p)) hr.2
  · obtain ⟨p, xs, rfl, hp, hx⟩ := i1.tup_inv
    obtain ⟨q, ys, rfl, hq, hy⟩ := i2.tup_inv
    refine .inr (.inr (.inr ⟨p, q, xs, ys, rfl, rfl, sqT_mono R.sub hp, sqT_mono R.sub hq, by rw [hx.length, hy.length]; exact hr.1, fun z => ?_, fun _ z => ?_, fun _ _ r hn => ?_⟩))
    · subst z
      refine hQ _ _ P H .refl R (.tup hq ?_) hr.2
      have := hx.append hy
      simpa using this
    · subst z
      refine hQ _ _ P H .refl R (.tup hp ?_) hr.2
      have := hx.append hy
      simpa using this
    · have g := Gr.alloc R (o := .tup (xs ++ ys)) hn
      exact hQ _ _ _ _ g (R.alloc _ hn) (.tup SqT.upd ((hx.append hy).mono g.p)) hr.2
  · exact hr.elim
theorem de_add (hK : X.K = E.K) (ha : PE X a (up E W ta)) (hb : PE X b (up E W tb)) : PE X (.BinOp a .Add b pos) (up E W (dOp dAdd ta tb)) :=
  de_op (by have h : OpR X (binaryOp .Add) (rCatA E.K) := by (rw [← hK]; exact op_catA)
            exact op_add.or ((show OpR X (binaryOp .Add) rAddS from op_add_str).or (op_cat.or h))) lk_add ha hb

@[simp] def dLt : R2D := dB2 fun i j => decide (i < j)
@[simp] def dLe : R2D := dB2 fun i j => decide (i ≤ j)
@[simp] def dGt : R2D := dB2 fun i j => decide (j < i)
@[simp] def dGe : R2D := dB2 fun i j => decide (j ≤ i)
def py : D → Option PyData
  | .v .non => some .none
  | .v (.bl b) => some (.bool b)
  | .v (.int i) => some (.int i)
  | .v (.str x) => some (.str x)
  | .lst ds => (pyA ds).map .list
  | .kst ds => (pyA ds).map .list
  | .tup ds => (pyA ds).map .tuple
  | _ => none
where pyA : List D → Option (List PyData)
  | [] => some []
  | d :: ds => match py d, pyA ds with
    | some p, some ps => some (p :: ps)
    | _, _ => none
end
section
variable {K : PySem.W.Frag} {cl : Nat → Addr} {P H : Hp}
mutual
theorem Is.dp (s : Same P H) : ∀ (d : D) (v : V) (p : PyData), Is K cl P d v → py d = some p → Dp K H v p
  | .v x, v, p, h, e => by
    rw [h.v_inv]
    cases x <;> simp only [py, Option.some.injEq, reduceCtorEq] at e
    · subst e; exact .non
    · subst e; exact .bl _
    · subst e; exact .int _
    · subst e; exact .str _
  | .lst ds, v, p, h, e => by
    obtain ⟨a, xs, rfl, ha, hx⟩ := h.lst_inv
    simp only [py, Option.map_eq_some_iff] at e
    obtain ⟨ps, e1, rfl⟩ := e
    exact .lst (.of (s _ _ ha)) (IsA.dp s ds xs ps hx e1)
  | .kst ds, v, p, h, e => by
    obtain ⟨a, xs, rfl, ha, hx⟩ := h.kst_inv
    simp only [py, Option.map_eq_some_iff] at e
    obtain ⟨ps, e1, rfl⟩ := e
    exact .lst (s.seq ha) (IsA.dp s ds xs ps hx e1)
  | .tup ds, v, p, h, e => by
    obtain ⟨a, xs, rfl, ha, hx⟩ := h.tup_inv
    simp only [py, Option.map_eq_some_iff] at e
    obtain ⟨ps, e1, rfl⟩ := e
    exact .tup (sqT_mono s ha) (IsA.dp s ds xs ps hx e1)
  | .dic _ _, v, p, h, e => by simp [py] at e
  | .obj _ _ _, v, p, h, e => by simp [py] at e
  | .stk, v, p, h, e => by simp [py] at e
theorem IsA.dp (s : Same P H) : ∀ (ds : List D) (vs : List V) (ps : List PyData), IsA K cl P ds vs → py.pyA ds = some ps → DpAll K H vs ps
  | [], vs, ps, h, e => by
    simp only [py.pyA, Option.some.injEq] at e
    subst e
    rw [h.nil_inv]; exact .nil
  | d :: ds, vs, ps, h, e => by
    obtain ⟨x, r, rfl, h1, h2⟩ := h.cons_inv
    unfold py.pyA at e
    split at e
    · rename_i p qs e1 e2
      cases e
      exact .cons (Is.dp s d x p h1 e1) (IsA.dp s ds r qs h2 e2)
    · cases e
end
end
section
variable {E : DC} {W : WX} {P P' H H' : Hp} {σ : L2.St} {Γ Γ' : DS} {X : Cx}
variable {a b c e : Expr} {es : List Expr} {ta tb tc te : DE} {pos : Pos}
def eqb (d1 d2 : D) : Option Bool := match d1, d2 with
  | .v x, .v y => if scal x y then some (decide (x = y)) else none
  | _, _ => match py d1, py d2 with
    | some p, some q => if SeqAt.shaped p && SeqAt.shaped q then some (PyData.eqv p q) else none
    | _, _ => none
@[simp] def dEq : R2D := fun d1 d2 Q => match eqb d1 d2 with
  | some k => Q (.v (.bl k))
  | none => False
@[simp] def dNe : R2D := fun d1 d2 Q => match eqb d1 d2 with
  | some k => Q (.v (.bl (!k)))
  | none => False
theorem eqb_cases {d1 d2 : D} {k : Bool} (h : eqb d1 d2 = some k) : (∃ x y, d1 = .v x ∧ d2 = .v y ∧ scal x y = true ∧ k = decide (x = y)) ∨ ∃ p q, py d1 = some p ∧ py d2 = some q ∧ SeqAt.shaped p = true ∧ SeqAt.shaped q = true ∧ k = PyData.eqv p q := by
  unfold eqb at h
  split at h
  · split at h
    · rename_i x y hs
      cases h
      exact .inl ⟨x, y, rfl, rfl, hs, rfl⟩
    · cases h
  · split at h
    · rename_i p q e1 e2
      split at h
      · rename_i hs
        rw [Bool.and_eq_true] at hs
        cases h
        exact .inr ⟨p, q, e1, e2, hs.1, hs.2, rfl⟩
      · cases h
    · cases h
theorem lk_eq : Lk2 E (fun x y H Q => rEq x y H Q ∨ rEqD E.K x y H Q) dEq := by
  intro P H σ Γ d1 d2 v1 v2 Q Qd R i1 i2 hr hQ
  unfold dEq at hr
  split at hr
  · rename_i k ek
    rcases eqb_cases ek with ⟨x, y, rfl, rfl, hs, rfl⟩ | ⟨p, q, e1, e2, s1, s2, rfl⟩
    · rw [i1.v_inv, i2.v_inv]; exact .inl ⟨hs, hQ _ _ P H .refl R .v hr⟩
    · exact .inr ⟨p, q, i1.dp R.sub _ _ _ e1, i2.dp R.sub _ _ _ e2, s1, s2, hQ _ _ P H .refl R .v hr⟩
  · exact hr.elim
theorem lk_ne : Lk2 E (fun x y H Q => rNe x y H Q ∨ rNeD E.K x y H Q) dNe := by
  intro P H σ Γ d1 d2 v1 v2 Q Qd R i1 i2 hr hQ
  unfold dNe at hr
  split at hr
  · rename_i k ek
    rcases eqb_cases ek with ⟨x, y, rfl, rfl, hs, rfl⟩ | ⟨p, q, e1, e2, s1, s2, rfl⟩
    · rw [i1.v_inv, i2.v_inv]; exact .inl ⟨hs, hQ _ _ P H .refl R .v hr⟩
    · exact .inr ⟨p, q, i1.dp R.sub _ _ _ e1, i2.dp R.sub _ _ _ e2, s1, s2, hQ _ _ P H .refl R .v hr⟩
  · exact hr.elim
theorem opEq (hK : X.K = E.K) (hu : X.A.units + 64 < cLine) : OpR X (compareOp .Eq) (fun x y H Q => rEq x y H Q ∨ rEqD E.K x y H Q) := by
  have h : OpR X (compareOp .Eq) (rEqD E.K) := by rw [← hK]; exact op_eqD hu
  exact op_eq.or h
theorem opNe (hK : X.K = E.K) (hu : X.A.units + 64 < cLine) : OpR X (compareOp .NotEq) (fun x y H Q => rNe x y H Q ∨ rNeD E.K x y H Q) := by
  have h : OpR X (compareOp .NotEq) (rNeD E.K) := by rw [← hK]; exact op_neD hu
  exact op_ne.or h
def atm : D → Option V
  | .v x => some x
  | _ => none
def atms : List D → Option (List V)
  | [] => some []
  | .v x :: ds => (atms ds).map (x :: ·)
  | _ :: _ => none
theorem atms_eq : ∀ {ds : List D} {xs : List V}, atms ds = some xs → ds = xs.map D.v
  | [], xs, h => by simp only [atms, Option.some.injEq] at h; subst h; rfl
  | .v x :: ds, xs, h => by
    simp only [atms, Option.map_eq_some_iff] at h
    obtain ⟨r, h1, rfl⟩ := h
    rw [atms_eq h1]; rfl
  | .lst _ :: _, _, h => by simp [atms] at h
  | .kst _ :: _, _, h => by simp [atms] at h
  | .tup _ :: _, _, h => by simp [atms] at h
  | .dic _ _ :: _, _, h => by simp [atms] at h
  | .obj _ _ _ :: _, _, h => by simp [atms] at h
  | .stk :: _, _, h => by simp [atms] at h
def inb (d1 d2 : D) : Option Bool := match d1, d2 with
  | .v (.str x), .v (.str y) => some (!(Builtin.Str.occurrences y x 0 y.length 1).isEmpty)
  | .v x, .lst ds => match atms ds with
    | some xs => if flatV x && xs.all flatV then some (inV x xs) else none
    | none => none
  | .v x, .kst ds => match atms ds with
    | some xs => if flatV x && xs.all flatV then some (inV x xs) else none
    | none => none
  | .v x, .tup ds => match atms ds with
    | some xs => if flatV x && xs.all flatV then some (inV x xs) else none
    | none => none
  | _, _ => none
@[simp] def dIn : R2D := fun d1 d2 Q => match inb d1 d2 with
  | some k => Q (.v (.bl k))
  | none => False
@[simp] def dNotIn : R2D := fun d1 d2 Q => match inb d1 d2 with
  | some k => Q (.v (.bl (!k)))
  | none => False
def rInS : R2 := fun x y H Q => ∃ i j, x = .str i ∧ y = .str j ∧ Q (.bl (!(Builtin.Str.occurrences j i 0 j.length 1).isEmpty)) H
def rNotInS : R2 := fun x y H Q => ∃ i j, x = .str i ∧ y = .str j ∧ Q (.bl (!(!(Builtin.Str.occurrences j i 0 j.length 1).isEmpty))) H
theorem lk_inb {neg : Bool} {P H : Hp} {Γ : DS} {d1 d2 : D} {v1 v2 : V} {Q : VK} (R : Rep E P H σ Γ) (i1 : Is E.K E.cl P d1 v1) (i2 : Is E.K E.cl P d2 v2) {k : Bool} (h : inb d1 d2 = some k) (hQ : Q (.bl (if neg then !k else k)) H) :
    (∃ i j, v1 = .str i ∧ v2 = .str j ∧ Q (.bl (if neg then !(!(Builtin.Str.occurrences j i 0 j.length 1).isEmpty) else !(Builtin.Str.occurrences j i 0 j.length 1).isEmpty)) H) ∨ rIn E.K neg v1 v2 H Q := by
  unfold inb at h
  split at h
  · rw [i1.v_inv, i2.v_inv]; cases h; exact .inl ⟨_, _, rfl, rfl, hQ⟩
  · obtain ⟨p, xs, rfl, hp, hx⟩ := i2.lst_inv
    split at h
    · rename_i zs ez
      split at h
      · rename_i hf
        rw [Bool.and_eq_true] at hf
        cases h
        rw [atms_eq ez] at hx
        obtain rfl := hx.atoms
        rw [i1.v_inv]
        exact .inr ⟨p, _, rfl, .inl (.of (R.sub _ _ hp)), hf.1, hf.2, hQ⟩
      · cases h
    · cases h
  · obtain ⟨p, xs, rfl, hp, hx⟩ := i2.kst_inv
    split at h
    · rename_i zs ez
      split at h
      · rename_i hf
        rw [Bool.and_eq_true] at hf
        cases h
        rw [atms_eq ez] at hx
        obtain rfl := hx.atoms
        rw [i1.v_inv]
        exact .inr ⟨p, _, rfl, .inl (R.sub.seq hp), hf.1, hf.2, hQ⟩
      · cases h
    · cases h
  · obtain ⟨p, xs, rfl, hp, hx⟩ := i2.tup_inv
    split at h
    · rename_i zs ez
      split at h
      · rename_i hf
        rw [Bool.and_eq_true] at hf
        cases h
        rw [atms_eq ez] at hx
        obtain rfl := hx.atoms
        rw [i1.v_inv]
        exact .inr ⟨p, _, rfl, .inr (sqT_mono R.sub hp), hf.1, hf.2, hQ⟩
      · cases h
    · cases h
  · cases h
theorem lk_in : Lk2 E (fun x y H Q => rInS x y H Q ∨ rIn E.K false x y H Q) dIn := by
  intro P H σ Γ d1 d2 v1 v2 Q Qd R i1 i2 hr hQ
  unfold dIn at hr
  split at hr
  · rename_i k ek
    exact lk_inb (neg := false) R i1 i2 ek (hQ _ _ P H .refl R .v hr)
  · exact hr.elim
theorem lk_notIn : Lk2 E (fun x y H Q => rNotInS x y H Q ∨ rIn E.K true x y H Q) dNotIn := by
  intro P H σ Γ d1 d2 v1 v2 Q Qd R i1 i2 hr hQ
  unfold dNotIn at hr
  split at hr
  · rename_i k ek
    exact lk_inb (neg := true) R i1 i2 ek (hQ _ _ P H .refl R .v hr)
  · exact hr.elim
theorem opIn (hK : X.K = E.K) : OpR X (compareOp .In) (fun x y H Q => rInS x y H Q ∨ rIn E.K false x y H Q) := by
  have h : OpR X (compareOp .In) (rIn E.K false) := by rw [← hK]; exact op_in_seq
  exact (show OpR X (compareOp .In) rInS from op_in_str).or h
theorem opNotIn (hK : X.K = E.K) : OpR X (compareOp .NotIn) (fun x y H Q => rNotInS x y H Q ∨ rIn E.K true x y H Q) := by
  have h : OpR X (compareOp .NotIn) (rIn E.K true) := by rw [← hK]; exact op_notIn_seq
  exact (show OpR X (compareOp .NotIn) rNotInS from op_notIn_str).or h
end
end DL

namespace DL
open PySem L2

section
variable {E : DC} {W : WX} {P P' H H' : Hp} {σ : L2.St} {Γ Γ' : DS} {X : Cx}
variable {a b c e : Expr} {es : List Expr} {ta tb tc te : DE} {pos : Pos}

@[simp] def dTest (te : DE) : DT := fun x Γ Q => te x Γ fun d Γ1 => match d with
  | .v (.bl k) => Q k Γ1
  | _ => False
theorem up_test {te : DE} {Q : Bool → Hp → Prop} (h : upT E W (dTest te) σ H Q) : up E W te σ H fun x H1 => ∃ c, x = .bl c ∧ Q c H1 := by
  obtain ⟨P, Γ, x, Qd, R, hT, hx, hQ⟩ := h
  refine ⟨P, Γ, x, _, R, hT, hx, fun d Γ1 v P1 H1 g1 R1 i1 h1 => ?_⟩
  split at h1
  · exact ⟨_, i1.v_inv, hQ _ _ _ _ g1 R1 h1⟩
  · exact h1.elim
theorem dt_val (he : PE X e (up E W te)) (hh : ∀ whole, isTrue e X.env whole = (do let v ← whole; standAt e.pos; holding [v] (truthy v)) := by intro _; rfl) : PT X e (upT E W (dTest te)) :=
  impT (pt_val he hh) fun _ _ _ h => up_test h
theorem dt_cmp {op : CmpOp} {r : R2} {R : R2D} (ho : OpR X (compareOp op) r) (L : Lk2 E r R) (ha : PE X a (up E W ta)) (hb : PE X b (up E W tb)) (hm : behindInMarks op b = false) : PT X (.Compare a [op] [b] pos) (upT E W (dTest (dOp R ta tb))) :=
  impT (pt_cmpR ho ha hb hm) fun _ _ _ h => up_op L (up_test h)
@[simp] def tru : D → Option Bool
  | .v .non => some false
  | .v (.bl k) => some k
  | .v (.int i) => some (i != 0)
  | .lst ds => some (!ds.isEmpty)
  | .kst ds => some (!ds.isEmpty)
  | .tup ds => some (!ds.isEmpty)
  | .dic ks _ => some (!ks.isEmpty)
  | _ => none
@[simp] def dTru (te : DE) : DT := fun x Γ Q => te x Γ fun d Γ1 => match d with
  | .v (.str s) => s.length ≤ sizeLine ∧ Q ((s.length : Int) != 0) Γ1
  | d => match tru d with
    | some k => Q k Γ1
    | none => False
theorem isEmpty_len {α β : Type} {xs : List α} {ys : List β} (h : xs.length = ys.length) : xs.isEmpty = ys.isEmpty := by
  cases xs <;> cases ys <;> first | rfl | simp at h
theorem up_tru (hK : X.K = E.K) {te : DE} {Q : Bool → Hp → Prop} (h : upT E W (dTru te) σ H Q) : up E W te σ H fun x H1 => ∃ k, TruV X.K x H1 k ∧ Q k H1 := by
  rw [hK]
  obtain ⟨P, Γ, x, Qd, R, hT, hx, hQ⟩ := h
  refine ⟨P, Γ, x, _, R, hT, hx, fun d Γ1 v P1 H1 g1 R1 i1 h1 => ?_⟩
  split at h1
  · rw [i1.v_inv]; exact ⟨_, ⟨h1.1, rfl⟩, hQ _ _ _ _ g1 R1 h1.2⟩
  · split at h1
    · rename_i k ek
      refine ⟨k, ?_, hQ _ _ _ _ g1 R1 h1⟩
      unfold tru at ek
      split at ek <;> try cases ek
      · rw [i1.v_inv]; rfl
      · rw [i1.v_inv]; rfl
      · rw [i1.v_inv]; rfl
      · obtain ⟨p, xs, rfl, hp, hx⟩ := i1.lst_inv
        exact .inl ⟨xs, .of (R1.sub _ _ hp), by rw [isEmpty_len hx.length]⟩
      · obtain ⟨p, xs, rfl, hp, hx⟩ := i1.kst_inv
        exact .inl ⟨xs, R1.sub.seq hp, by rw [isEmpty_len hx.length]⟩
      · obtain ⟨p, xs, rfl, hp, hx⟩ := i1.tup_inv
        exact .inr (.inl ⟨xs, sqT_mono R1.sub hp, by rw [isEmpty_len hx.length]⟩)
      · obtain ⟨p, xs, rfl, hp, hk, hx⟩ := i1.dic_inv
        exact .inr (.inr ⟨xs, R1.sub _ _ hp, by rw [← hk, isEmpty_len (List.length_map _)]⟩)
    · exact h1.elim
theorem dt_tru (hK : X.K = E.K) (he : PE X e (up E W te)) (hh : ∀ whole, isTrue e X.env whole = (do let v ← whole; standAt e.pos; holding [v] (truthy v)) := by intro _; rfl) : PT X e (upT E W (dTru te)) :=
  impT (pt_truth he hh) fun _ _ _ h => up_tru hK h
def isN : D → Bool
  | .v x => decide (x = .non)
  | _ => false
@[simp] def dIsN (ta : DE) : DE := fun x Γ Q => ta x Γ fun d Γ1 => Q (.v (.bl (isN d))) Γ1
@[simp] def dNotN (ta : DE) : DE := fun x Γ Q => ta x Γ fun d Γ1 => Q (.v (.bl (!isN d))) Γ1
theorem isN_eq {K : PySem.W.Frag} {cl : Nat → Addr} {d : D} {v : V} (h : Is K cl P d v) : decide (v = .non) = isN d := by
  cases d with
  | v x => rw [h.v_inv]; rfl
  | _ =>
    obtain ⟨a, rfl⟩ := h.ref_of (fun x => nofun)
    rfl
theorem up_isN {Q : VK} (h : up E W (dIsN ta) σ H Q) : tIsN (up E W ta) σ H Q := by
  obtain ⟨P, Γ, x, Qd, R, hT, hx, hQ⟩ := h
  refine ⟨P, Γ, x, _, R, hT, hx, fun d Γ1 v P1 H1 g1 R1 i1 h1 => ?_⟩
  show Q (V.bl (decide (v = V.non))) H1
  rw [isN_eq i1]
  exact hQ _ _ _ _ _ g1 R1 .v h1
theorem up_notN {Q : VK} (h : up E W (dNotN ta) σ H Q) : tNotN (up E W ta) σ H Q := by
  obtain ⟨P, Γ, x, Qd, R, hT, hx, hQ⟩ := h
  refine ⟨P, Γ, x, _, R, hT, hx, fun d Γ1 v P1 H1 g1 R1 i1 h1 => ?_⟩
  show Q (V.bl (!decide (v = V.non))) H1
  rw [isN_eq i1]
  exact hQ _ _ _ _ _ g1 R1 .v h1
theorem de_isN {j pos'} (ha : PE X a (up E W ta)) : PE X (.Compare a [.Is] [.Constant .none j pos'] pos) (up E W (dIsN ta)) := impE (pe_cmp (pc_isN ha)) fun _ _ _ h => up_isN h
theorem de_notN {j pos'} (ha : PE X a (up E W ta)) : PE X (.Compare a [.IsNot] [.Constant .none j pos'] pos) (up E W (dNotN ta)) := impE (pe_cmp (pc_notN ha)) fun _ _ _ h => up_notN h
theorem dt_isN {j pos'} (ha : PE X a (up E W ta)) : PT X (.Compare a [.Is] [.Constant .none j pos'] pos) (upT E W (dTest (dIsN ta))) := impT (pt_cmp (pc_isN ha)) fun _ _ _ h => up_isN (up_test h)
theorem dt_notN {j pos'} (ha : PE X a (up E W ta)) : PT X (.Compare a [.IsNot] [.Constant .none j pos'] pos) (upT E W (dTest (dNotN ta))) := impT (pt_cmp (pc_notN ha)) fun _ _ _ h => up_notN (up_test h)
variable {tt tu : DT} {rest : List Expr}
@[simp] def dAnd (t u : DT) : DT := fun x Γ Q => t x Γ fun k Γ1 => if k = true then u x Γ1 Q else Q false Γ1
@[simp] def dOr (t u : DT) : DT := fun x Γ Q => t x Γ fun k Γ1 => if k = true then Q true Γ1 else u x Γ1 Q
@[simp] def dNot (t : DT) : DT := fun x Γ Q => t x Γ fun k Γ1 => Q (!k) Γ1
theorem up_and {Q : Bool → Hp → Prop} (h : upT E W (dAnd tt tu) σ H Q) : tAnd (upT E W tt) (upT E W tu) σ H Q := by
  obtain ⟨P, Γ, x, Qd, R, hT, hx, hQ⟩ := h
  refine ⟨P, Γ, x, _, R, hT, hx, fun k Γ1 P1 H1 g1 R1 h1 => ?_⟩
  cases k with
  | true => exact ⟨P1, Γ1, x, Qd, R1, h1, hx, fun k2 Γ2 P2 H2 g2 R2 h2 => hQ _ _ _ _ (g1.trans g2) R2 h2⟩
  | false => exact hQ _ _ _ _ g1 R1 h1
theorem up_or {Q : Bool → Hp → Prop} (h : upT E W (dOr tt tu) σ H Q) : tOr (upT E W tt) (upT E W tu) σ H Q := by
  obtain ⟨P, Γ, x, Qd, R, hT, hx, hQ⟩ := h
  refine ⟨P, Γ, x, _, R, hT, hx, fun k Γ1 P1 H1 g1 R1 h1 => ?_⟩
  cases k with
  | false => exact ⟨P1, Γ1, x, Qd, R1, h1, hx, fun k2 Γ2 P2 H2 g2 R2 h2 => hQ _ _ _ _ (g1.trans g2) R2 h2⟩
  | true => exact hQ _ _ _ _ g1 R1 h1
theorem up_not {Q : Bool → Hp → Prop} (h : upT E W (dNot tt) σ H Q) : tNot (upT E W tt) σ H Q := by
  obtain ⟨P, Γ, x, Qd, R, hT, hx, hQ⟩ := h
  exact ⟨P, Γ, x, _, R, hT, hx, fun k Γ1 P1 H1 g1 R1 h1 => hQ _ _ _ _ g1 R1 h1⟩
theorem dw_and1 (ha : PT X a (upT E W tt)) : PW X (.BoolOp .And [a] pos) (upT E W tt) := pw_and1 ha
theorem dw_or1 (ha : PT X a (upT E W tt)) : PW X (.BoolOp .Or [a] pos) (upT E W tt) := pw_or1 ha
theorem dw_and (ha : PT X a (upT E W tt)) (hb : PW X (.BoolOp .And (b :: rest) pos) (upT E W tu)) : PW X (.BoolOp .And (a :: b :: rest) pos) (upT E W (dAnd tt tu)) := impW (pw_and ha hb) fun _ _ _ h => up_and h
theorem dw_or (ha : PT X a (upT E W tt)) (hb : PW X (.BoolOp .Or (b :: rest) pos) (upT E W tu)) : PW X (.BoolOp .Or (a :: b :: rest) pos) (upT E W (dOr tt tu)) := impW (pw_or ha hb) fun _ _ _ h => up_or h
theorem dt_not (ha : PT X a (upT E W tt)) : PT X (.UnaryOp .Not a pos) (upT E W (dNot tt)) := impT (pt_not ha) fun _ _ _ h => up_not h
@[simp] def dAndV (ta tb : DE) : DE := fun x Γ Q => ta x Γ fun d Γ1 => match d with
  | .v (.bl true) => tb x Γ1 Q
  | .v (.bl false) => Q (.v (.bl false)) Γ1
  | _ => False
@[simp] def dOrV (ta tb : DE) : DE := fun x Γ Q => ta x Γ fun d Γ1 => match d with
  | .v (.bl false) => tb x Γ1 Q
  | .v (.bl true) => Q (.v (.bl true)) Γ1
  | _ => False
@[simp] def dNotV (ta : DE) : DE := fun x Γ Q => ta x Γ fun d Γ1 => match d with
  | .v (.bl k) => Q (.v (.bl (!k))) Γ1
  | _ => False
theorem up_andV {Q : VK} (h : up E W (dAndV ta tb) σ H Q) : tAndV (up E W ta) (up E W tb) σ H Q := by
  obtain ⟨P, Γ, x, Qd, R, hT, hx, hQ⟩ := h
  refine ⟨P, Γ, x, _, R, hT, hx, fun d Γ1 v P1 H1 g1 R1 i1 h1 => ?_⟩
  split at h1
  · exact ⟨true, i1.v_inv, P1, Γ1, x, Qd, R1, h1, hx, fun d2 Γ2 v2 P2 H2 g2 R2 i2 h2 => hQ _ _ _ _ _ (g1.trans g2) R2 i2 h2⟩
  · exact ⟨false, i1.v_inv, hQ _ _ _ _ _ g1 R1 .v h1⟩
  · exact h1.elim
theorem up_orV {Q : VK} (h : up E W (dOrV ta tb) σ H Q) : tOrV (up E W ta) (up E W tb) σ H Q := by
  obtain ⟨P, Γ, x, Qd, R, hT, hx, hQ⟩ := h
  refine ⟨P, Γ, x, _, R, hT, hx, fun d Γ1 v P1 H1 g1 R1 i1 h1 => ?_⟩
  split at h1
  · exact ⟨false, i1.v_inv, P1, Γ1, x, Qd, R1, h1, hx, fun d2 Γ2 v2 P2 H2 g2 R2 i2 h2 => hQ _ _ _ _ _ (g1.trans g2) R2 i2 h2⟩
  · exact ⟨true, i1.v_inv, hQ _ _ _ _ _ g1 R1 .v h1⟩
  · exact h1.elim
theorem up_notV {Q : VK} (h : up E W (dNotV ta) σ H Q) : tNotV (up E W ta) σ H Q := by
  obtain ⟨P, Γ, x, Qd, R, hT, hx, hQ⟩ := h
  refine ⟨P, Γ, x, _, R, hT, hx, fun d Γ1 v P1 H1 g1 R1 i1 h1 => ?_⟩
  split at h1
  · exact ⟨_, i1.v_inv, hQ _ _ _ _ _ g1 R1 .v h1⟩
  · exact h1.elim
theorem de_one {op : PySem.BoolOp} (ha : PE X a (up E W ta)) : PE X (.BoolOp op [a] pos) (up E W ta) := pe_one ha
theorem de_and (ha : PE X a (up E W ta)) (hb : PE X (.BoolOp .And (b :: rest) pos) (up E W tb)) : PE X (.BoolOp .And (a :: b :: rest) pos) (up E W (dAndV ta tb)) := impE (pe_and ha hb) fun _ _ _ h => up_andV h
theorem de_or (ha : PE X a (up E W ta)) (hb : PE X (.BoolOp .Or (b :: rest) pos) (up E W tb)) : PE X (.BoolOp .Or (a :: b :: rest) pos) (up E W (dOrV ta tb)) := impE (pe_or ha hb) fun _ _ _ h => up_orV h
theorem de_not (ha : PE X a (up E W ta)) : PE X (.UnaryOp .Not a pos) (up E W (dNotV ta)) := impE (pe_not ha) fun _ _ _ h => up_notV h
@[simp] def dIf (t : DT) (ta tb : DE) : DE := fun x Γ Q => t x Γ fun k Γ1 => if k = true then ta x Γ1 Q else tb x Γ1 Q
theorem up_if {Q : VK} (h : up E W (dIf tt ta tb) σ H Q) : tIf (upT E W tt) (up E W ta) (up E W tb) σ H Q := by
  obtain ⟨P, Γ, x, Qd, R, hT, hx, hQ⟩ := h
  refine ⟨P, Γ, x, _, R, hT, hx, fun k Γ1 P1 H1 g1 R1 h1 => ?_⟩
  cases k with
  | true => exact ⟨P1, Γ1, x, Qd, R1, h1, hx, fun d2 Γ2 v2 P2 H2 g2 R2 i2 h2 => hQ _ _ _ _ _ (g1.trans g2) R2 i2 h2⟩
  | false => exact ⟨P1, Γ1, x, Qd, R1, h1, hx, fun d2 Γ2 v2 P2 H2 g2 R2 i2 h2 => hQ _ _ _ _ _ (g1.trans g2) R2 i2 h2⟩
theorem de_if (hc : PT X c (upT E W tt)) (ha : PE X a (up E W ta)) (hb : PE X b (up E W tb)) : PE X (.IfExp c a b pos) (up E W (dIf tt ta tb)) := impE (pe_ifExp hc ha hb) fun _ _ _ h => up_if h
@[simp] def dNeg : R1D := fun d Q => match d with
  | .v (.int i) => Q (.v (.int (-i)))
  | _ => False
theorem lk_neg : Lk1 E (rU fun i => .int (-i)) dNeg := by
  intro P H σ Γ d1 v1 Q Qd R i1 hr hQ
  unfold dNeg at hr
  split at hr
  · rw [i1.v_inv]; exact ⟨_, rfl, hQ _ _ P H .refl R .v hr⟩
  · exact hr.elim
theorem de_neg (ha : PE X a (up E W ta)) : PE X (.UnaryOp .USub a pos) (up E W (dUn dNeg ta)) := de_un un_neg lk_neg ha

@[simp] def dNil : DA := fun x Γ Q => Q [] Γ
@[simp] def dCons (ta : DE) (tr : DA) : DA := fun x Γ Q => ta x Γ fun d Γ1 => tr x Γ1 fun ds Γ2 => Q (d :: ds) Γ2
variable {tas : DA} {tf : DF}
theorem up_cons {Q : List V → Hp → Prop} (h : upA E W (dCons ta tas) σ H Q) : tCons (up E W ta) (upA E W tas) σ H Q := by
  obtain ⟨P, Γ, x, Qd, R, hT, hx, hQ⟩ := h
  refine ⟨P, Γ, x, _, R, hT, hx, fun d Γ1 v P1 H1 g1 R1 i1 h1 => ?_⟩
  exact ⟨P1, Γ1, x, _, R1, h1, hx, fun ds Γ2 vs P2 H2 g2 R2 i2 h2 => hQ _ _ _ _ _ (g1.trans g2) R2 (.cons (i1.mono g2.p) i2) h2⟩
theorem da_nil : PA X [] (upA E W dNil) := impA pa_nil fun σ H Q h => by
  obtain ⟨P, Γ, x, Qd, R, hT, hx, hQ⟩ := h
  exact hQ _ _ _ _ _ .refl R .nil hT
theorem da_cons (ha : PE X e (up E W ta)) (hr : PA X es (upA E W tas)) (hs : starEach (e :: es) X.env = (false, eval e X.env) :: starEach es X.env := by rfl) : PA X (e :: es) (upA E W (dCons ta tas)) :=
  impA (pa_cons ha hr hs) fun _ _ _ h => up_cons h
@[simp] def dTup (t : DA) : DE := fun x Γ Q => t x Γ fun ds Γ1 => ds.length ≤ sizeLine ∧ Q (.tup ds) Γ1
@[simp] def dLst (t : DA) : DF := fun x Γ Q => t x Γ fun ds Γ1 => ds.length ≤ sizeLine ∧ Q ds Γ1
theorem de_tup {x1} (h : PA X es (upA E W tas)) : PE X (.Tuple es x1 pos) (up E W (dTup tas)) := impE (pe_tup h) fun σ H Q h => by
  obtain ⟨P, Γ, x, Qd, R, hT, hx, hQ⟩ := h
  refine ⟨P, Γ, x, _, R, hT, hx, fun ds Γ1 vs P1 H1 g1 R1 i1 h1 => ⟨by rw [i1.length]; exact h1.1, fun p hp => ?_⟩⟩
  exact hQ _ _ _ _ _ (g1.trans (Gr.alloc R1 _ hp)) (R1.alloc _ hp) (.tup SqT.upd (i1.mono (Gr.alloc (σ := σ) (o := .tup vs) R1 hp).p)) h1.2
theorem df_lst (h : PA X es (upA E W tas)) : PE X (.List es pos) (upF E W (dLst tas)) := impE (pe_lst h) fun σ H Q h => by
  obtain ⟨P, Γ, x, Qd, R, hT, hx, hQ⟩ := h
  refine ⟨P, Γ, x, _, R, hT, hx, fun ds Γ1 vs P1 H1 g1 R1 i1 h1 => ⟨by rw [i1.length]; exact h1.1, fun p hp => ?_⟩⟩
  exact hQ _ _ _ _ _ _ (g1.trans (Gr.fresh _ hp)) (R1.fresh _ hp) (R1.pnone hp) (R1.mnone hp) (none_of_dm g1.dm hp) (R1.h0none hp) upd_same i1 h1.2
@[simp] def dFz (t : DF) : DE := fun x Γ Q => t x Γ fun ds Γ1 => Q (.lst ds) Γ1
theorem up_fz {Q : VK} (h : up E W (dFz tf) σ H Q) : upF E W tf σ H Q := by
  obtain ⟨P, Γ, x, Qd, R, hT, hx, hQ⟩ := h
  refine ⟨P, Γ, x, _, R, hT, hx, fun ds Γ1 a vs P1 H1 g1 R1 hp hm hn h0 ha i1 h1 => ?_⟩
  have R2 := R1.know ha (fun ps => nofun) hp (.inl h0) hm
  refine hQ (.lst ds) Γ1 (.ref a) _ H1 ⟨g1.p.trans (same_upd hp), fun b o q => ?_, g1.k, g1.dm, g1.o⟩ R2 (.lst upd_same (i1.mono (same_upd hp))) h1
  by_cases e : b = a
  · subst e; exact .inr (.inl hn)
  · rw [upd_ne e] at q; exact g1.n b o q
@[simp] def dOwn (t : DF) : DE := fun x Γ Q => t x Γ fun ds Γ1 => ∀ a, Γ1.m a = none → Q (.v (.ref a)) (Γ1.put a (some (.lst ds)))
theorem up_own {Q : VK} (h : up E W (dOwn tf) σ H Q) : upF E W tf σ H Q := by
  obtain ⟨P, Γ, x, Qd, R, hT, hx, hQ⟩ := h
  refine ⟨P, Γ, x, _, R, hT, hx, fun ds Γ1 a vs P1 H1 g1 R1 hp hm hn h0 ha i1 h1 => ?_⟩
  have R2 := R1.own_put (b := .lst ds) (H' := H1) hp (fun _ _ => rfl) (fun ps => by rw [ha]; nofun) (fun ps => by rw [ha]; nofun) ⟨vs, ha, i1⟩ (.inl h0)
  refine hQ _ _ (.ref a) P1 H1 ⟨g1.p, g1.n, g1.k, g1.dm, fun b c e => ?_⟩ R2 .v (h1 a hm)
  simp only [DS.put] at e
  by_cases z : b = a
  · subst z; exact .inr hn
  · rw [if_neg z] at e; exact g1.o b c e
theorem de_own (h : PE X e (upF E W tf)) : PE X e (up E W (dOwn tf)) := impE h fun _ _ _ h => up_own h
theorem de_fz (h : PE X e (upF E W tf)) : PE X e (up E W (dFz tf)) := impE h fun _ _ _ h => up_fz h
end
end DL

namespace DL
open PySem L2

section
variable {E : DC} {W : WX} {P P' H H' : Hp} {σ : L2.St} {Γ Γ' : DS} {X : Cx}
variable {a b c e o : Expr} {es : List Expr} {ta tb tc te : DE} {pos : Pos} {tas : DA}

theorem IsA.atI {K : PySem.W.Frag} {cl : Nat → Addr} {ds : List D} {xs : List V} {i : Int} {d : D} (h : IsA K cl P ds xs) (e : atI ds i = some d) : ∃ v, L2.atI xs i = some v ∧ Is K cl P d v := by
  unfold L2.atI at e ⊢
  rw [h.length]
  cases hi : ixN ds.length i with
  | none => rw [hi] at e; cases e
  | some j =>
    rw [hi] at e
    obtain ⟨v, h1, h2⟩ := h.get (i := j) (d := d) e
    exact ⟨v, h1, h2⟩
@[simp] def dIxR : R2D := fun d1 d2 Q => match d1, d2 with
  | .tup ds, .v (.int i) => match atI ds i with
    | some d => Q d
    | none => False
  | .lst ds, .v (.int i) => match atI ds i with
    | some d => Q d
    | none => False
  | .kst ds, .v (.int i) => match atI ds i with
    | some d => Q d
    | none => False
  | .v (.str z), .v (.int i) => z.length ≤ sizeLine ∧ match atI z.cps.toList i with
    | some c => Q (.v (.str ⟨#[c]⟩))
    | none => False
  | _, _ => False
theorem lk_ix : Lk2 E (rIx E.K) dIxR := by
  intro P H σ Γ d1 d2 v1 v2 Q Qd R i1 i2 hr hQ
  unfold dIxR at hr
  split at hr
  · obtain ⟨p, xs, rfl, hp, hx⟩ := i1.tup_inv
    rw [i2.v_inv]
    split at hr
    · rename_i e
      obtain ⟨v, h1, h2⟩ := hx.atI e
      exact .inr (.inl ⟨p, xs, _, v, rfl, rfl, sqT_mono R.sub hp, h1, hQ _ _ P H .refl R h2 hr⟩)
    · exact hr.elim
  · obtain ⟨p, xs, rfl, hp, hx⟩ := i1.lst_inv
    rw [i2.v_inv]
    split at hr
    · rename_i e
      obtain ⟨v, h1, h2⟩ := hx.atI e
      exact .inl ⟨p, xs, _, v, rfl, rfl, .of (R.sub _ _ hp), h1, hQ _ _ P H .refl R h2 hr⟩
    · exact hr.elim
  · obtain ⟨p, xs, rfl, hp, hx⟩ := i1.kst_inv
    rw [i2.v_inv]
    split at hr
    · rename_i e
      obtain ⟨v, h1, h2⟩ := hx.atI e
      exact .inl ⟨p, xs, _, v, rfl, rfl, R.sub.seq hp, h1, hQ _ _ P H .refl R h2 hr⟩
    · exact hr.elim
  · rw [i1.v_inv, i2.v_inv]
    obtain ⟨hz, hr⟩ := hr
    split at hr
    · rename_i e
      exact .inr (.inr ⟨_, _, _, rfl, rfl, hz, e, hQ _ _ P H .refl R .v hr⟩)
    · exact hr.elim
  · exact hr.elim
theorem ixR (hK : X.K = E.K) : IxR X (rIx E.K) := by rw [← hK]; exact ix_seq
theorem de_ix (hK : X.K = E.K) (ha : PE X a (up E W ta)) (hb : PE X b (up E W tb)) (hs : PlainIx b := by exact fun _ _ => rfl) : PE X (.Subscript a b pos) (up E W (dOp dIxR ta tb)) :=
  impE (pe_ix (ixR hK) ha hb hs) fun _ _ _ h => up_op lk_ix h

def cutD (xs : List D) (lo hi : Option Int) : List D := (xs.drop (HT.sIx xs.length 0 lo)).take (HT.sIx xs.length xs.length hi - HT.sIx xs.length 0 lo)
theorem IsA.cut {K : PySem.W.Frag} {cl : Nat → Addr} {ds : List D} {xs : List V} (h : IsA K cl P ds xs) (lo hi : Option Int) : IsA K cl P (cutD ds lo hi) (cutV xs lo hi) := by
  unfold cutD cutV
  rw [h.length]
  exact (h.drop _).take _
abbrev DO := XC → DS → (Option Int → DS → Prop) → Prop
def upO (E : DC) (W : WX) (T : DO) : TO := fun σ H Q => ∃ P Γ x Qd, Rep E P H σ Γ ∧ T x Γ Qd ∧ XL E W σ x ∧
  ∀ b Γ' P' H', Gr σ Γ P H Γ' P' H' → Rep E P' H' σ Γ' → Qd b Γ' → Q b H'
@[simp] def dNoPart : DO := fun x Γ Q => Q none Γ
@[simp] def dPart (t : DE) : DO := fun x Γ Q => t x Γ fun d Γ1 => match d with
  | .v (.int i) => Q (some i) Γ1
  | _ => False
theorem do_none : PO X none (upO E W dNoPart) := ⟨fun pins s σ H Q I h => by
  obtain ⟨P, Γ, x, Qd, R, hT, hx, hQ⟩ := h
  exact po_none.run pins s σ H Q I (hQ _ _ _ _ .refl R hT)⟩
theorem do_some (h : PE X e (up E W te)) : PO X (some e) (upO E W (dPart te)) := ⟨fun pins s σ H Q I hh => by
  refine (po_some h).run pins s σ H Q I ?_
  obtain ⟨P, Γ, x, Qd, R, hT, hx, hQ⟩ := hh
  refine ⟨P, Γ, x, _, R, hT, hx, fun d Γ1 v P1 H1 g1 R1 i1 h1 => ?_⟩
  split at h1
  · exact ⟨_, i1.v_inv, hQ _ _ _ _ g1 R1 h1⟩
  · exact h1.elim⟩
@[simp] def dSl (te : DE) (tl th : DO) : DE := fun x Γ Q => te x Γ fun d Γ1 => tl x Γ1 fun lo Γ2 => th x Γ2 fun hi Γ3 => match d with
  | .lst ds => Q (.lst (cutD ds lo hi)) Γ3
  | .kst ds => Q (.lst (cutD ds lo hi)) Γ3
  | .tup ds => Q (.tup (cutD ds lo hi)) Γ3
  | .v (.str z) => z.length ≤ sizeLine ∧ Q (.v (.str (cutS z lo hi))) Γ3
  | _ => False
theorem slR (hK : X.K = E.K) : SlR X (fun x lo hi H Q => rSlL E.K x lo hi H Q ∨ rSlA E.K x lo hi H Q ∨ ∃ z, x = .str z ∧ z.length ≤ sizeLine ∧ Q (.str (cutS z lo hi)) H) := by
  rw [← hK]
  exact sl_list.or (sl_tupA.or sl_str)
variable {lo hi : Option Expr} {tl th : DO} {p2 : Pos}
theorem de_slice (hK : X.K = E.K) (he : PE X e (up E W te)) (hl : PO X lo (upO E W tl)) (hh : PO X hi (upO E W th)) : PE X (.Subscript e (.Slice lo hi none p2) pos) (up E W (dSl te tl th)) :=
  impE (pe_slice (slR (E := E) hK) he hl hh) fun σ H Q h => by
    obtain ⟨P, Γ, x, Qd, R, hT, hx, hQ⟩ := h
    refine ⟨P, Γ, x, _, R, hT, hx, fun d Γ1 v P1 H1 g1 R1 i1 h1 => ?_⟩
    refine ⟨P1, Γ1, x, _, R1, h1, hx, fun l Γ2 P2 H2 g2 R2 h2 => ?_⟩
    refine ⟨P2, Γ2, x, _, R2, h2, hx, fun u Γ3 P3 H3 g3 R3 h3 => ?_⟩
    have i3 := i1.mono (g2.p.trans g3.p)
    have g := g1.trans (g2.trans g3)
    split at h3
    · obtain ⟨p, xs, rfl, hp, hx⟩ := i3.lst_inv
      exact .inl ⟨p, xs, rfl, .of (R3.sub _ _ hp), fun q hq => hQ _ _ _ _ _ (g.trans (Gr.alloc R3 _ hq)) (R3.alloc _ hq) (.lst upd_same ((hx.cut l u).mono (Gr.alloc (o := .lst (cutV xs l u)) R3 hq).p)) h3⟩
    · obtain ⟨p, xs, rfl, hp, hx⟩ := i3.kst_inv
      exact .inl ⟨p, xs, rfl, R3.sub.seq hp, fun q hq => hQ _ _ _ _ _ (g.trans (Gr.alloc R3 _ hq)) (R3.alloc _ hq) (.lst upd_same ((hx.cut l u).mono (Gr.alloc (o := .lst (cutV xs l u)) R3 hq).p)) h3⟩
    · obtain ⟨p, xs, rfl, hp, hx⟩ := i3.tup_inv
      refine .inr (.inl ⟨p, xs, rfl, sqT_mono R3.sub hp, fun z => ?_, fun _ q hq => ?_⟩)
      · refine hQ _ _ _ _ _ g R3 (.tup hp ?_) h3
        have := hx.cut l u
        unfold cutV at this
        rw [z.1, z.2] at this
        simpa using this
      · exact hQ _ _ _ _ _ (g.trans (Gr.alloc R3 _ hq)) (R3.alloc _ hq) (.tup SqT.upd ((hx.cut l u).mono (Gr.alloc (o := .tup (cutV xs l u)) R3 hq).p)) h3
    · rw [i3.v_inv]
      exact .inr (.inr ⟨_, rfl, h3.1, hQ _ _ _ _ _ g R3 .v h3.2⟩)
    · exact h3.elim

@[simp] def dCB (R : RND) (t : DA) : DE := fun x Γ Q => t x Γ fun ds Γ1 => R ds fun d => Q d Γ1
theorem up_cb {r : List V → Hp → VK → Prop} {R : RND} (L : LkN E r R) {Q : VK} (h : up E W (dCB R tas) σ H Q) : tCB r (upA E W tas) σ H Q := by
  obtain ⟨P, Γ, x, Qd, Rp, hT, hx, hQ⟩ := h
  refine ⟨P, Γ, x, _, Rp, hT, hx, fun ds Γ1 vs P1 H1 g1 R1 i1 h1 => ?_⟩
  exact L P1 H1 σ Γ1 ds vs Q _ R1 i1 h1 fun d v P3 H3 g3 R3 i3 h3 => hQ d Γ1 v P3 H3 (g1.trans g3) R3 i3 h3
@[simp] def dCF (R : List D → (List D → Prop) → Prop) (t : DA) : DF := fun x Γ Q => t x Γ fun ds Γ1 => R ds fun es => Q es Γ1
theorem up_cf {r : List V → Hp → VK → Prop} {R : List D → (List D → Prop) → Prop} (L : LkF E r R) {Q : VK} (h : upF E W (dCF R tas) σ H Q) : tCB r (upA E W tas) σ H Q := by
  obtain ⟨P, Γ, x, Qd, Rp, hT, hx, hQ⟩ := h
  refine ⟨P, Γ, x, _, Rp, hT, hx, fun ds Γ1 vs P1 H1 g1 R1 i1 h1 => ?_⟩
  exact L P1 H1 σ Γ1 ds vs Q _ R1 i1 h1 fun es p ws H3 g3 R3 hn hp i3 h3 => hQ es Γ1 p ws P1 H3 (g1.trans g3) R3 (R1.pnone hn) (R1.mnone hn) (none_of_dm g1.dm hn) (R1.h0none hn) hp i3 h3
variable {x : Str} {p : Pos} {id T : String} {r : List V → Hp → VK → Prop} {R : RND} {RF : List D → (List D → Prop) → Prop}
theorem de_callB (hc : CallR X (.builtin id) r) (L : LkN E r R) (hg : Gl X x) (hm : X.mg x = none) (hv : bootBuiltins x = some (.builtin id)) (ha : PA X (e :: es) (upA E W tas)) (hn : x ≠ "__name__" := by decide) (hdb : (x == ("__debug__" : Str)) = false := by decide)
    (he : starEach (e :: es) X.env = (false, eval e X.env) :: starEach es X.env := by rfl) (hpl : (backTo pos (starEach es X.env)).any (·.1) = false := by rfl) : PE X (.Call (.Name x p) (e :: es) [] pos) (up E W (dCB R tas)) :=
  impE (pe_callB hc hg hm hv ha hn hdb he hpl) fun _ _ _ h => up_cb L h
theorem de_callTy (hc : CallR X (.type T) r) (L : LkN E r R) (hg : Gl X x) (hm : X.mg x = none) (hv : bootBuiltins x = some (.type T)) (ha : PA X (e :: es) (upA E W tas)) (hn : x ≠ "__name__" := by decide) (hdb : (x == ("__debug__" : Str)) = false := by decide)
    (he : starEach (e :: es) X.env = (false, eval e X.env) :: starEach es X.env := by rfl) (hpl : (backTo pos (starEach es X.env)).any (·.1) = false := by rfl) : PE X (.Call (.Name x p) (e :: es) [] pos) (up E W (dCB R tas)) :=
  impE (pe_callTy hc hg hm hv ha hn hdb he hpl) fun _ _ _ h => up_cb L h
theorem df_callTy (hc : CallR X (.type T) r) (L : LkF E r RF) (hg : Gl X x) (hm : X.mg x = none) (hv : bootBuiltins x = some (.type T)) (ha : PA X (e :: es) (upA E W tas)) (hn : x ≠ "__name__" := by decide) (hdb : (x == ("__debug__" : Str)) = false := by decide)
    (he : starEach (e :: es) X.env = (false, eval e X.env) :: starEach es X.env := by rfl) (hpl : (backTo pos (starEach es X.env)).any (·.1) = false := by rfl) : PE X (.Call (.Name x p) (e :: es) [] pos) (upF E W (dCF RF tas)) :=
  impE (pe_callTy hc hg hm hv ha hn hdb he hpl) fun _ _ _ h => up_cf L h
theorem IsA.one {K : PySem.W.Frag} {cl : Nat → Addr} {d : D} {xs : List V} (h : IsA K cl P [d] xs) : ∃ x, xs = [x] ∧ Is K cl P d x := by
  obtain ⟨x, r, rfl, h1, h2⟩ := h.cons_inv
  rw [h2.nil_inv]; exact ⟨x, rfl, h1⟩
theorem IsA.two {K : PySem.W.Frag} {cl : Nat → Addr} {d d' : D} {xs : List V} (h : IsA K cl P [d, d'] xs) : ∃ x y, xs = [x, y] ∧ Is K cl P d x ∧ Is K cl P d' y := by
  obtain ⟨x, r, rfl, h1, h2⟩ := h.cons_inv
  obtain ⟨y, rfl, h3⟩ := h2.one
  exact ⟨x, y, rfl, h1, h3⟩
@[simp] def dLen : RND := fun ds Q => match ds with
  | [.lst xs] => Q (.v (.int xs.length))
  | [.kst xs] => Q (.v (.int xs.length))
  | [.tup xs] => Q (.v (.int xs.length))
  | [.v (.str z)] => z.length ≤ sizeLine ∧ Q (.v (.int z.length))
  | _ => False
theorem lk_len : LkN E (fun xs H Q => (∃ p ys, xs = [.ref p] ∧ (SqL E.K H p ys ∨ SqT E.K H p ys) ∧ Q (.int ys.length) H) ∨ ∃ z, xs = [.str z] ∧ z.length ≤ sizeLine ∧ Q (.int z.length) H) dLen := by
  intro P H σ Γ ds vs Q Qd R i hr hQ
  unfold dLen at hr
  split at hr
  · obtain ⟨x, rfl, i1⟩ := i.one
    obtain ⟨p, xs, rfl, hp, hx⟩ := i1.lst_inv
    exact .inl ⟨p, xs, rfl, .inl (.of (R.sub _ _ hp)), hQ _ _ P H .refl R .v (by rw [hx.length]; exact hr)⟩
  · obtain ⟨x, rfl, i1⟩ := i.one
    obtain ⟨p, xs, rfl, hp, hx⟩ := i1.kst_inv
    exact .inl ⟨p, xs, rfl, .inl (R.sub.seq hp), hQ _ _ P H .refl R .v (by rw [hx.length]; exact hr)⟩
  · obtain ⟨x, rfl, i1⟩ := i.one
    obtain ⟨p, xs, rfl, hp, hx⟩ := i1.tup_inv
    exact .inl ⟨p, xs, rfl, .inr (sqT_mono R.sub hp), hQ _ _ P H .refl R .v (by rw [hx.length]; exact hr)⟩
  · obtain ⟨x, rfl, i1⟩ := i.one
    rw [i1.v_inv]
    exact .inr ⟨_, rfl, hr.1, hQ _ _ P H .refl R .v hr.2⟩
  · exact hr.elim
theorem cLen (hK : X.K = E.K) : CallR X (.builtin "len") (fun xs H Q => (∃ p ys, xs = [.ref p] ∧ (SqL E.K H p ys ∨ SqT E.K H p ys) ∧ Q (.int ys.length) H) ∨ ∃ z, xs = [.str z] ∧ z.length ≤ sizeLine ∧ Q (.int z.length) H) := by
  rw [← hK]; exact call_len_seq.or call_len_str
@[simp] def dInt : RND := fun ds Q => match ds with
  | [.v (.int i)] => Q (.v (.int i))
  | [.v (.bl k)] => Q (.v (.int (if k then 1 else 0)))
  | _ => False
theorem lk_int : LkN E (fun xs H Q => (∃ i, xs = [.int i] ∧ Q (.int i) H) ∨ ∃ k, xs = [.bl k] ∧ Q (.int (if k then 1 else 0)) H) dInt := by
  intro P H σ Γ ds vs Q Qd R i hr hQ
  unfold dInt at hr
  split at hr
  · obtain ⟨x, rfl, i1⟩ := i.one; rw [i1.v_inv]; exact .inl ⟨_, rfl, hQ _ _ P H .refl R .v hr⟩
  · obtain ⟨x, rfl, i1⟩ := i.one; rw [i1.v_inv]; exact .inr ⟨_, rfl, hQ _ _ P H .refl R .v hr⟩
  · exact hr.elim
@[simp] def dAbs : RND := fun ds Q => match ds with
  | [.v (.int i)] => Q (.v (.int (if i < 0 then -i else i)))
  | _ => False
theorem lk_abs : LkN E (fun xs H Q => ∃ i, xs = [.int i] ∧ Q (.int (if i < 0 then -i else i)) H) dAbs := by
  intro P H σ Γ ds vs Q Qd R i hr hQ
  unfold dAbs at hr
  split at hr
  · obtain ⟨x, rfl, i1⟩ := i.one; rw [i1.v_inv]; exact ⟨_, rfl, hQ _ _ P H .refl R .v hr⟩
  · exact hr.elim
@[simp] def dDivmod : RND := fun ds Q => match ds with
  | [.v (.int i), .v (.int j)] => CDiv i j ∧ Q (.tup [.v (.int (i / j)), .v (.int (i % j))])
  | _ => False
theorem lk_divmod : LkN E (fun xs H Q => ∃ i j, xs = [.int i, .int j] ∧ CDiv i j ∧ ∀ p, H p = none → Q (.ref p) (upd H p (.tup [.int (i / j), .int (i % j)]))) dDivmod := by
  intro P H σ Γ ds vs Q Qd R i hr hQ
  unfold dDivmod at hr
  split at hr
  · obtain ⟨x, y, rfl, i1, i2⟩ := i.two
    rw [i1.v_inv, i2.v_inv]
    exact ⟨_, _, rfl, hr.1, fun p hp => hQ _ _ _ _ (Gr.alloc R _ hp) (R.alloc _ hp) (.tup SqT.upd (.cons .v (.cons .v .nil))) hr.2⟩
  · exact hr.elim
@[simp] def dMax2 : RND := fun ds Q => match ds with
  | [.v (.int i), .v (.int j)] => Q (.v (.int (if j > i then j else i)))
  | _ => False
theorem lk_max2 : LkN E (fun xs H Q => ∃ i j, xs = [.int i, .int j] ∧ Q (.int (if j > i then j else i)) H) dMax2 := by
  intro P H σ Γ ds vs Q Qd R i hr hQ
  unfold dMax2 at hr
  split at hr
  · obtain ⟨x, y, rfl, i1, i2⟩ := i.two
    rw [i1.v_inv, i2.v_inv]
    exact ⟨_, _, rfl, hQ _ _ P H .refl R .v hr⟩
  · exact hr.elim
@[simp] def dMin2 : RND := fun ds Q => match ds with
  | [.v (.int i), .v (.int j)] => Q (.v (.int (if j < i then j else i)))
  | _ => False
theorem lk_min2 : LkN E (fun xs H Q => ∃ i j, xs = [.int i, .int j] ∧ Q (.int (if j < i then j else i)) H) dMin2 := by
  intro P H σ Γ ds vs Q Qd R i hr hQ
  unfold dMin2 at hr
  split at hr
  · obtain ⟨x, y, rfl, i1, i2⟩ := i.two
    rw [i1.v_inv, i2.v_inv]
    exact ⟨_, _, rfl, hQ _ _ P H .refl R .v hr⟩
  · exact hr.elim
def intsD : List D → Option (List Int)
  | [] => some []
  | .v (.int i) :: ds => (intsD ds).map (i :: ·)
  | _ :: _ => none
def blsD : List D → Option (List Bool)
  | [] => some []
  | .v (.bl i) :: ds => (blsD ds).map (i :: ·)
  | _ :: _ => none
def strsD : List D → Option (List Str)
  | [] => some []
  | .v (.str i) :: ds => (strsD ds).map (i :: ·)
  | _ :: _ => none
theorem intsD_eq : ∀ {ds : List D} {xs : List Int}, intsD ds = some xs → ds = (xs.map V.int).map D.v := by
  intro ds
  induction ds with
  | nil => intro xs h; simp only [intsD, Option.some.injEq] at h; subst h; rfl
  | cons d ds ih =>
    intro xs h
    unfold intsD at h
    split at h
    · rename_i e; cases e
    · rename_i e; cases e
      simp only [Option.map_eq_some_iff] at h
      obtain ⟨r, h1, rfl⟩ := h
      rw [ih h1]; rfl
    · cases h
theorem blsD_eq : ∀ {ds : List D} {xs : List Bool}, blsD ds = some xs → ds = (xs.map V.bl).map D.v := by
  intro ds
  induction ds with
  | nil => intro xs h; simp only [blsD, Option.some.injEq] at h; subst h; rfl
  | cons d ds ih =>
    intro xs h
    unfold blsD at h
    split at h
    · rename_i e; cases e
    · rename_i e; cases e
      simp only [Option.map_eq_some_iff] at h
      obtain ⟨r, h1, rfl⟩ := h
      rw [ih h1]; rfl
    · cases h
theorem strsD_eq : ∀ {ds : List D} {xs : List Str}, strsD ds = some xs → ds = (xs.map V.str).map D.v := by
  intro ds
  induction ds with
  | nil => intro xs h; simp only [strsD, Option.some.injEq] at h; subst h; rfl
  | cons d ds ih =>
    intro xs h
    unfold strsD at h
    split at h
    · rename_i e; cases e
    · rename_i e; cases e
      simp only [Option.map_eq_some_iff] at h
      obtain ⟨r, h1, rfl⟩ := h
      rw [ih h1]; rfl
    · cases h
@[simp] def dMaxL : RND := fun ds Q => match ds with
  | [.lst xs] => match intsD xs with
    | some ns => 0 < ns.length ∧ ∀ m, m ∈ ns → (∀ y, y ∈ ns → y ≤ m) → Q (.v (.int m))
    | none => False
  | _ => False
theorem lk_maxL : LkN E (rMax E.K) dMaxL := by
  intro P H σ Γ ds vs Q Qd R i hr hQ
  unfold dMaxL at hr
  split at hr
  · obtain ⟨x, rfl, i1⟩ := i.one
    obtain ⟨p, xs, rfl, hp, hx⟩ := i1.lst_inv
    split at hr
    · rename_i ns e
      rw [intsD_eq e] at hx
      obtain rfl := hx.atoms
      exact ⟨p, ns, rfl, .of (R.sub _ _ hp), hr.1, fun m h1 h2 => hQ _ _ P H .refl R .v (hr.2 m h1 h2)⟩
    · exact hr.elim
  · exact hr.elim
@[simp] def dAll : RND := fun ds Q => match ds with
  | [.lst xs] => match blsD xs with
    | some ns => Q (.v (.bl (ns.all _root_.id)))
    | none => False
  | _ => False
theorem lk_all : LkN E (rAll E.K) dAll := by
  intro P H σ Γ ds vs Q Qd R i hr hQ
  unfold dAll at hr
  split at hr
  · obtain ⟨x, rfl, i1⟩ := i.one
    obtain ⟨p, xs, rfl, hp, hx⟩ := i1.lst_inv
    split at hr
    · rename_i ns e
      rw [blsD_eq e] at hx
      obtain rfl := hx.atoms
      exact ⟨p, ns, rfl, .of (R.sub _ _ hp), hQ _ _ P H .refl R .v hr⟩
    · exact hr.elim
  · exact hr.elim
@[simp] def dTuple : RND := fun ds Q => match ds with
  | [.lst xs] => Q (.tup xs)
  | [.kst xs] => Q (.tup xs)
  | [.tup xs] => Q (.tup xs)
  | _ => False
theorem lk_tuple : LkN E (fun xs H Q => ∃ p ys, xs = [.ref p] ∧ ((SqL E.K H p ys ∧ ∀ l, H l = none → Q (.ref l) (upd H l (.tup ys))) ∨ (SqT E.K H p ys ∧ Q (.ref p) H))) dTuple := by
  intro P H σ Γ ds vs Q Qd R i hr hQ
  unfold dTuple at hr
  split at hr
  · obtain ⟨x, rfl, i1⟩ := i.one
    obtain ⟨p, xs, rfl, hp, hx⟩ := i1.lst_inv
    exact ⟨p, xs, rfl, .inl ⟨.of (R.sub _ _ hp), fun l hl => hQ _ _ _ _ (Gr.alloc R _ hl) (R.alloc _ hl) (.tup SqT.upd (hx.mono (Gr.alloc (σ := σ) (o := .tup xs) R hl).p)) hr⟩⟩
  · obtain ⟨x, rfl, i1⟩ := i.one
    obtain ⟨p, xs, rfl, hp, hx⟩ := i1.kst_inv
    exact ⟨p, xs, rfl, .inl ⟨R.sub.seq hp, fun l hl => hQ _ _ _ _ (Gr.alloc R _ hl) (R.alloc _ hl) (.tup SqT.upd (hx.mono (Gr.alloc (σ := σ) (o := .tup xs) R hl).p)) hr⟩⟩
  · obtain ⟨x, rfl, i1⟩ := i.one
    obtain ⟨p, xs, rfl, hp, hx⟩ := i1.tup_inv
    exact ⟨p, xs, rfl, .inr ⟨sqT_mono R.sub hp, hQ _ _ P H .refl R (.tup hp hx) hr⟩⟩
  · exact hr.elim
@[simp] def dListOf : List D → (List D → Prop) → Prop := fun ds Q => match ds with
  | [.lst xs] => Q xs
  | [.kst xs] => Q xs
  | [.tup xs] => Q xs
  | _ => False
theorem lk_listOf : LkF E (fun xs H Q => ∃ p ys, xs = [.ref p] ∧ (SqL E.K H p ys ∨ SqT E.K H p ys) ∧ ∀ l, H l = none → Q (.ref l) (upd H l (.lst ys))) dListOf := by
  intro P H σ Γ ds vs Q Qd R i hr hQ
  unfold dListOf at hr
  split at hr
  · obtain ⟨x, rfl, i1⟩ := i.one
    obtain ⟨p, xs, rfl, hp, hx⟩ := i1.lst_inv
    exact ⟨p, xs, rfl, .inl (.of (R.sub _ _ hp)), fun l hl => hQ _ _ _ _ (Gr.fresh _ hl) (R.fresh _ hl) hl upd_same hx hr⟩
  · obtain ⟨x, rfl, i1⟩ := i.one
    obtain ⟨p, xs, rfl, hp, hx⟩ := i1.kst_inv
    exact ⟨p, xs, rfl, .inl (R.sub.seq hp), fun l hl => hQ _ _ _ _ (Gr.fresh _ hl) (R.fresh _ hl) hl upd_same hx hr⟩
  · obtain ⟨x, rfl, i1⟩ := i.one
    obtain ⟨p, xs, rfl, hp, hx⟩ := i1.tup_inv
    exact ⟨p, xs, rfl, .inr (sqT_mono R.sub hp), fun l hl => hQ _ _ _ _ (Gr.fresh _ hl) (R.fresh _ hl) hl upd_same hx hr⟩
  · exact hr.elim
end
end DL

namespace DL
open PySem L2 PySem.Calls

structure FunX (K : PySem.W.Frag) (x qual : Str) (st : Stmt) (f : Addr) (fd : FuncData) : Prop where
  ex : ∃ (oc : Value) (od : Option Addr) (dV kV doc pm : Value) (an : Option Addr) (cdv ct : Value) (osl : Array (Option Value)),
    fd = PySem.W.fnOf x qual (defArgs st) (defBody st) (defScope st) dV kV doc pm an cdv ct ∧ K.lookup f = some ⟨oc, od, .func fd, osl⟩ ∧ PySem.W.codeIn K cdv qual = true
structure FnG (P : Program) (w : World) (K : PySem.W.Frag) (mg : Str → Option Value) (base : Heap) (k : Nat) (f : Addr) (fd : FuncData) (ps : List Str) (sp : Sp) : Prop where
  len : ∀ vs H Q E, sp vs H Q E → vs.length = ps.length
  go : ∀ (A : Around) (l : List Env) (s : Shared) (H : Hp) (args : Args) (us : List Value) (vs : List V) (Q : VK) (E : XK), A.guards = some [] → Room k A → Env0 P w K mg base A l s H → BindsTo s fd args (ps.zip us) → Vals vs us → sp vs H Q E →
    codeAny (model P w) A (.call (.ref f) args) (CR (L2.CX P w) l P w H s Q E) s
section
variable {P : Program} {w : World} {K : PySem.W.Frag} {mg : Str → Option Value} {base : Heap} {f : Addr} {fd : FuncData} {ps : List Str} {sp sp' : Sp} {k j : Nat}
theorem FnG.mono (F : FnG P w K mg base j f fd ps sp) (h : j ≤ k) : FnG P w K mg base k f fd ps sp := ⟨F.len, fun A l s H args us vs Q E g hr => F.go A l s H args us vs Q E g (hr.mono h)⟩
theorem FnG.imp (F : FnG P w K mg base k f fd ps sp) (h : ∀ vs H Q E, sp' vs H Q E → sp vs H Q E) : FnG P w K mg base k f fd ps sp' :=
  ⟨fun vs H Q E q => F.len vs H Q E (h _ _ _ _ q), fun A l s H args us vs Q E g hr he hb hv hs => F.go A l s H args us vs Q E g hr he hb hv (h _ _ _ _ hs)⟩
theorem FnG.of (F : FnOk P w K mg base (L2.CX P w) k f fd ps sp) : FnG P w K mg base k f fd ps sp := ⟨F.len, fun A l s H args us vs Q E _ => F.run A l s H args us vs Q E⟩
theorem FnG.body {x qual : Str} {st : Stmt} {N : List Str} (F : FunX K x qual st f fd) (S : FnScope N ps (defScope st)) (len : ∀ vs H Q E, sp vs H Q E → vs.length = ps.length)
    (hbody : ∀ (cdv : Value), fd.code = cdv → ∀ (A : Around) (l : List Env) (s : Shared) (H : Hp) (vs : List V) (Q : VK) (E : XK), A.guards = some [] → Room k (A.deeper (PyProof.Rows.envOfC qual (defScope st) s.heap.objs.size f cdv)) → sp vs H Q E →
      ∃ t, PSs (cxOf (L2.CX P w) P w K mg base N qual (defScope st) f cdv A l s H E) (defBody st) t ∧ t { nx := fun _ H' => Q .non H', rt := Q } (L2.start N vs) H) : FnG P w K mg base (k + 1) f fd ps sp := by
  obtain ⟨oc, od, dV, kV, doc, pm, an, cdv, ct, osl, rfl, lk, hcd⟩ := F.ex
  refine ⟨len, fun A l s H args us vs Q E g hr e0 hb r hsp => ?_⟩
  have KX : K.In s.heap := e0.mod.kin.keeps fun b o q => (e0.bs b o q).1
  have nl : s.heap.NoLimit := e0.mod.nolimit.keeps fun b o q => (e0.bs b o q).1
  refine codeAny_call_function hr.depth (KX f _ lk) rfl S.co S.gen rfl (PySem.W.codeRec_of KX hcd) (hb _ _ _ _ ?_)
  refine wpAny_newFunctionEnv_cells S.kind (fun y hy => ?_) fun env he s1 inC => ?_
  · obtain ⟨n, v⟩ := y
    rcases S.par n (List.of_mem_zip hy).1 with q | q
    · exact Or.inl q
    · exact Or.inr ⟨q, PySem.W.cellsFrom_some _ _ _ (Or.inl q)⟩
  · subst he
    obtain ⟨t, ht, hq⟩ := hbody cdv rfl A l s H vs Q E g (hr.deeper _) hsp
    refine ⟨nl.keeps inC.toInCall.keep, codeAny_func (wpAny_mono (ht.run [] s1 (L2.start N vs) H _ (inv_start S hr.hd e0 (len _ _ _ _ hsp) r inC) hq) (fun fl s' hs => ?_) fun _ _ hs => hs)⟩
    match fl, hs with
    | .ret u, ⟨v, σ', H', J, rv, q⟩ => exact ⟨v, H', J.os, J.bare, J.base, J.hok, rv, q⟩
    | .next, ⟨σ', H', J, q⟩ => exact ⟨.non, H', J.os, J.bare, J.base, J.hok, rfl, q⟩
    | .brk, ⟨_, _, _, q⟩ => exact q.elim
    | .cont, ⟨_, _, _, q⟩ => exact q.elim
end
section
variable {X : Cx} {pins : List (Addr × Obj)} {σ : L2.St} {H : Hp} {s : Shared} {k : Nat} {f C : Addr} {fd : FuncData} {ps ks : List Str} {sp : Sp}
inductive Src where
  | p (i : Nat)
  | k (i : Nat)
  | n
@[simp] def pick {α : Type} (z : α) (src : List Src) (us ws : List α) : List α := src.map fun c => match c with
  | .p i => us.getD i z
  | .k i => ws.getD i z
  | .n => z
theorem Vals.getD : ∀ {vs : List V} {us : List Value} (i : Nat), Vals vs us → RelV (vs.getD i .non) (us.getD i .none) := fun {vs us} i r => by
  rw [List.getD_eq_getElem?_getD, List.getD_eq_getElem?_getD]
  cases h : vs[i]? with
  | none => rw [r.none_of h]; rfl
  | some v =>
    obtain ⟨u, e, q⟩ := r.get h
    rw [e]; exact q
theorem Vals.pick {vs zs : List V} {us ws : List Value} (r : Vals vs us) (rz : Vals zs ws) : ∀ src : List Src, Vals (DL.pick .non src vs zs) (DL.pick .none src us ws)
  | [] => .nil
  | .p i :: src => .cons (Vals.getD i r) (Vals.pick r rz src)
  | .k i :: src => .cons (Vals.getD i rz) (Vals.pick r rz src)
  | .n :: src => .cons rfl (Vals.pick r rz src)
@[simp] def pickD (src : List Src) (ds es : List D) : List D := pick (.v .non) src ds es
theorem IsA.getD {K : PySem.W.Frag} {cl : Nat → Addr} {P : Hp} {ds : List D} {vs : List V} (h : IsA K cl P ds vs) (i : Nat) : Is K cl P (ds.getD i (.v .non)) (vs.getD i .non) := by
  rw [List.getD_eq_getElem?_getD, List.getD_eq_getElem?_getD]
  cases e : ds[i]? with
  | none =>
    have hl := h.length
    have := List.getElem?_eq_none_iff.mp e
    rw [List.getElem?_eq_none (by omega)]
    exact .v
  | some d =>
    obtain ⟨v, e1, q⟩ := h.get e
    rw [e1]; exact q
theorem IsA.pick {K : PySem.W.Frag} {cl : Nat → Addr} {P : Hp} {ds es : List D} {vs zs : List V} (h : IsA K cl P ds vs) (h' : IsA K cl P es zs) : ∀ src : List Src, IsA K cl P (pickD src ds es) (DL.pick .non src vs zs)
  | [] => .nil
  | .p i :: src => .cons (h.getD i) (h.pick h' src)
  | .k i :: src => .cons (h'.getD i) (h.pick h' src)
  | .n :: src => .cons .v (h.pick h' src)
structure Bnd (K : PySem.W.Frag) (fd : FuncData) (ps : List Str) (m n : Nat) (ks : List Str) (src : List Src) : Prop where
  to : ∀ (s : Shared) (fs us ws : List Value), K.In s.heap → fs.length = m → us.length = n → ws.length = ks.length → BindsTo s fd ⟨fs ++ us, ks.zip ws⟩ (ps.zip (fs ++ pick .none src us ws))
variable {m n : Nat} {src : List Src}
theorem call_g {Q : VK} {fs us ws : List Value} {gs vs zs : List V} {E : XK} (hG : X.A.guards = some []) (F : FnG X.prog X.w X.K X.mg X.base k f fd ps sp) (hr : Room k X.A) (hb : Bnd X.K fd ps m n ks src) (hx : PassesAt (L2.CX X.prog X.w) X σ E) (I : Inv X pins σ H s) (rf : Vals gs fs) (r : Vals vs us) (rz : Vals zs ws)
    (l0 : gs.length = m) (l1 : vs.length = n) (l2 : zs.length = ks.length) (h : sp (gs ++ pick .non src vs zs) H Q E) : wpAny (model X.prog X.w) X.A (call (.ref f) (fs ++ us) (ks.zip ws)) (EP X pins σ Q) X.xe s :=
  wpAny_call (codeAny_mono (F.go X.A X.stack s H ⟨fs ++ us, ks.zip ws⟩ _ _ Q E hG hr I.env0 (hb.to s fs us ws I.kIn (rf.length.symm.trans l0) (r.length.symm.trans l1) (rz.length.symm.trans l2)) (rf.append (Vals.pick r rz src)) h) fun c s' hq => by
    match c, hq with
    | .error e, q => exact hx pins H s e s' I q
    | .ok (.ret u), q => exact I.after q
    | .ok .next, q => exact (show False from q).elim
    | .ok .brk, q => exact (show False from q).elim
    | .ok .cont, q => exact (show False from q).elim)
theorem code_g1 {Q : VK} {fs : List Value} {gs : List V} {A : Around} {R : Result → Shared → Prop} (hG : A.guards = some []) (hf : A.frames = some X.stack) (F : FnG X.prog X.w X.K X.mg X.base k f fd ps sp) (hr : Room k A) (hb : Bnd X.K fd ps m 0 [] []) (I : Inv X pins σ H s) (rf : Vals gs fs)
    (l0 : gs.length = m) (h : sp gs H Q E0) (hQ : ∀ u s', EP X pins σ Q u s' → R (.ok (.ret u)) s') : codeAny (model X.prog X.w) A (.call (.ref f) ⟨fs, []⟩) R s := by
  have e0 := I.env0
  have b := hb.to s fs [] [] I.kIn (rf.length.symm.trans l0) rfl rfl
  rw [List.append_nil] at b
  have b' : BindsTo s fd ⟨fs, []⟩ (ps.zip fs) := by
    have z : fs ++ pick Value.none [] [] [] = fs := List.append_nil fs
    rw [z] at b; exact b
  refine codeAny_mono (F.go A X.stack s H ⟨fs, []⟩ fs gs Q E0 hG hr ⟨hf, e0.mod, e0.bs, e0.bsz, e0.funs, e0.frf, e0.hok, e0.bare⟩ b' rf h) fun c s' hq => ?_
  match c, hq with
  | .error e, q =>
    obtain ⟨_, _, _, _, _, _, _, _, _, _, _, _, z⟩ := q
    exact z.elim
  | .ok (.ret u), q => exact hQ u s' (I.after q)
  | .ok .next, q => exact (show False from q).elim
  | .ok .brk, q => exact (show False from q).elim
  | .ok .cont, q => exact (show False from q).elim
theorem call_g1 {Q : VK} {fs : List Value} {gs : List V} {A : Around} {Q' : Value → Shared → Prop} {E' : Value → Shared → Prop} (hG : A.guards = some []) (hf : A.frames = some X.stack) (F : FnG X.prog X.w X.K X.mg X.base k f fd ps sp) (hr : Room k A) (hb : Bnd X.K fd ps m 0 [] []) (I : Inv X pins σ H s) (rf : Vals gs fs)
    (l0 : gs.length = m) (h : sp gs H Q E0) (hQ : ∀ u s', EP X pins σ Q u s' → Q' u s') : wpAny (model X.prog X.w) A (call (.ref f) fs) Q' E' s :=
  wpAny_call (code_g1 hG hf F hr hb I rf l0 h fun u s' q => hQ u s' q)
theorem make_g {Q : VK} {us ws : List Value} {vs zs : List V} {E : XK} (hG : X.A.guards = some []) (M : Mk X.K C f) (F : FnG X.prog X.w X.K X.mg X.base k f fd ps sp) (hr : Room (k + 1) X.A) (hb : Bnd X.K fd ps 1 n ks src) (hx : PassesAt (L2.CX X.prog X.w) X σ E) (I : Inv X pins σ H s) (r : Vals vs us) (rz : Vals zs ws)
    (l1 : vs.length = n) (l2 : zs.length = ks.length)
    (h : ∀ x dx, H x = none → H dx = none → dx ≠ x → sp (.ref x :: pick .non src vs zs) (upd (upd H dx (.own x)) x (.ins C dx [])) (fun v H2 => v = .non ∧ Q (.ref x) H2) E) : wpAny (model X.prog X.w) X.A (call (.ref C) us (ks.zip ws)) (EP X pins σ Q) X.xe s := by
  have hq := h (s.heap.objs.size + 1) s.heap.objs.size (I.hok.fresh (Nat.le_succ _)) (I.hok.fresh (Nat.le_refl _)) (Nat.ne_of_lt (Nat.lt_succ_self _))
  have J := Inv.made (C := C) I
  refine wpAny_call (make_map (f := f) I.kIn M.makes M.init (beq_iff_eq.mp M.fn) (codeAny_mono (F.go _ X.stack _ _ ⟨Value.ref (s.heap.objs.size + 1) :: us, ks.zip ws⟩ (Value.ref (s.heap.objs.size + 1) :: pick .none src us ws) _ _ E ?_ (hr.make C us (ks.zip ws))
    (J.env0.make C us (ks.zip ws)) (hb.to _ [_] us ws J.kIn rfl (r.length.symm.trans l1) (rz.length.symm.trans l2)) (show Vals (V.ref (s.heap.objs.size + 1) :: pick .non src vs zs) (Value.ref (s.heap.objs.size + 1) :: pick .none src us ws) from .cons rfl (Vals.pick r rz src)) hq) fun c s' hc => ?_))
  · show pushGuards (Code.guards (.builtin "type.__call__" ⟨.ref C :: us, ks.zip ws⟩)) X.A.guards = some []
    rw [hG, show Code.guards (.builtin "type.__call__" ⟨.ref C :: us, ks.zip ws⟩) = [] from rfl]
    rfl
  · match c, hc with
    | .error e, q => exact hx pins _ _ e s' J q
    | .ok (.ret u), q =>
      obtain ⟨v, H', J', rv, rfl, q⟩ := J.after q
      exact ⟨rv, ⟨V.ref (s.heap.objs.size + 1), H', J', rfl, q⟩⟩
    | .ok .next, q => exact (show False from q).elim
    | .ok .brk, q => exact (show False from q).elim
    | .ok .cont, q => exact (show False from q).elim
variable {x mm : Str} {p pos apos : Pos} {e o : Expr} {es : List Expr} {kws : List Keyword} {ta : TE} {t tk : TA} {W : WX}
def tGf (n m : Nat) (sp : Sp) (W : WX) (src : List Src) (t tk : TA) : TE := fun σ H Q => t σ H fun vs H1 => tk σ H1 fun zs H2 => vs.length = n ∧ zs.length = m ∧ sp (pick .non src vs zs) H2 Q (WE W σ)
def tGm (C : Addr) (n m : Nat) (sp : Sp) (W : WX) (src : List Src) (t tk : TA) : TE := fun σ H Q => t σ H fun vs H1 => tk σ H1 fun zs H2 => vs.length = n ∧ zs.length = m ∧
  ∀ x dx, H2 x = none → H2 dx = none → dx ≠ x → sp (.ref x :: pick .non src vs zs) (upd (upd H2 dx (.own x)) x (.ins C dx [])) (fun v H3 => v = .non ∧ Q (.ref x) H3) (WE W σ)
def tGo (Cs : Addr → Prop) (mm : Str) (n m : Nat) (sp : Sp) (W : WX) (src : List Src) (ta : TE) (t tk : TA) : TE := fun σ H Q => ta σ H fun x H0 => ∃ C a dx fs, Cs C ∧ x = .ref a ∧ H0 a = some (.ins C dx fs) ∧ fs.lookup mm = none ∧
  t σ H0 fun vs H1 => tk σ H1 fun zs H2 => vs.length = n ∧ zs.length = m ∧ sp (x :: pick .non src vs zs) H2 Q (WE W σ)
theorem pg_call (hG : X.A.guards = some []) (F : FnG X.prog X.w X.K X.mg X.base k f fd ps sp) (hr : Room k X.A) (hg : Gl X x) (hm : X.mg x = some (.ref f)) (hk : PySem.W.keepIn X.K (.ref f) = true) (hb : Bnd X.K fd ps 0 n ks src) (tkx : Takes X W)
    (ha : PA X (e :: es) t) (hkw : PK X kws tk) (hall : (backToKw pos (keywordEach kws X.env)).all (·.1.isSome) = true := by rfl) (hks : (backToKw pos (keywordEach kws X.env)).filterMap (·.1) = ks := by rfl)
    (hdb : (x == ("__debug__" : Str)) = false := by decide) (he : starEach (e :: es) X.env = (false, eval e X.env) :: starEach es X.env := by rfl)
    (hpl : ((backTo pos (starEach (e :: es) X.env)).any (·.1) || (backToKw pos (keywordEach kws X.env)).any (·.1.isNone)) = false := by rfl) :
    PE X (.Call (.Name x p) (e :: es) kws pos) (tGf n ks.length sp W src t tk) := ⟨fun pins s σ H Q I h =>
  wpAny_Call_Name_kw (ld_glob I hg hm (PySem.W.callWith_KW (h₀ := X.base) I.ok.mod.kin hk hall (thn (ha.run pos pins s σ H _ I h) fun us s1 ⟨vs, H1, I1, r, q⟩ => thn (hkw.run pos pins s1 σ H1 _ I1 q) fun ws s2 ⟨zs, H2, I2, rz, l1, l2, q2⟩ => ⟨I2.kIn, by
    rw [hks]; exact call_g (fs := []) (gs := []) hG F hr hb (passAt tkx σ) I2 .nil r rz rfl l1 l2 q2⟩) hpl he) hdb)⟩
theorem pg_call0 (hG : X.A.guards = some []) (F : FnG X.prog X.w X.K X.mg X.base k f fd ps sp) (hr : Room k X.A) (hg : Gl X x) (hm : X.mg x = some (.ref f)) (hk : PySem.W.keepIn X.K (.ref f) = true) (hb : Bnd X.K fd ps 0 0 ks src) (tkx : Takes X W)
    (hkw : PK X kws tk) (hall : (backToKw pos (keywordEach kws X.env)).all (·.1.isSome) = true := by rfl) (hks : (backToKw pos (keywordEach kws X.env)).filterMap (·.1) = ks := by rfl)
    (hdb : (x == ("__debug__" : Str)) = false := by decide) (hpl : ((backTo pos (starEach [] X.env)).any (·.1) || (backToKw pos (keywordEach kws X.env)).any (·.1.isNone)) = false := by rfl) :
    PE X (.Call (.Name x p) [] kws pos) (tGf 0 ks.length sp W src tNil tk) := ⟨fun pins s σ H Q I h =>
  wpAny_Call_Name_kw (ld_glob I hg hm (PySem.W.callWith_KW0 (h₀ := X.base) I.ok.mod.kin hk hall (thn (hkw.run pos pins s σ H _ I h) fun ws s2 ⟨zs, H2, I2, rz, l1, l2, q2⟩ => ⟨I2.kIn, by
    rw [hks]; exact call_g (fs := []) (gs := []) (us := []) (vs := []) hG F hr hb (passAt tkx σ) I2 .nil .nil rz rfl rfl l2 q2⟩) hpl) hdb)⟩
theorem pg_make (hG : X.A.guards = some []) (M : Mk X.K C f) (F : FnG X.prog X.w X.K X.mg X.base k f fd ps sp) (hr : Room (k + 1) X.A) (hg : Gl X x) (hm : X.mg x = some (.ref C)) (hb : Bnd X.K fd ps 1 n ks src) (tkx : Takes X W)
    (ha : PA X (e :: es) t) (hkw : PK X kws tk) (hall : (backToKw pos (keywordEach kws X.env)).all (·.1.isSome) = true := by rfl) (hks : (backToKw pos (keywordEach kws X.env)).filterMap (·.1) = ks := by rfl)
    (hdb : (x == ("__debug__" : Str)) = false := by decide) (he : starEach (e :: es) X.env = (false, eval e X.env) :: starEach es X.env := by rfl)
    (hpl : ((backTo pos (starEach (e :: es) X.env)).any (·.1) || (backToKw pos (keywordEach kws X.env)).any (·.1.isNone)) = false := by rfl) :
    PE X (.Call (.Name x p) (e :: es) kws pos) (tGm C n ks.length sp W src t tk) := ⟨fun pins s σ H Q I h =>
  wpAny_Call_Name_kw (ld_glob I hg hm (PySem.W.callWith_KW (h₀ := X.base) I.ok.mod.kin M.kp hall (thn (ha.run pos pins s σ H _ I h) fun us s1 ⟨vs, H1, I1, r, q⟩ => thn (hkw.run pos pins s1 σ H1 _ I1 q) fun ws s2 ⟨zs, H2, I2, rz, l1, l2, q2⟩ => ⟨I2.kIn, by
    rw [hks]; exact make_g hG M F hr hb (passAt tkx σ) I2 r rz l1 l2 q2⟩) hpl he) hdb)⟩
theorem pg_make0 (hG : X.A.guards = some []) (M : Mk X.K C f) (F : FnG X.prog X.w X.K X.mg X.base k f fd ps sp) (hr : Room (k + 1) X.A) (hg : Gl X x) (hm : X.mg x = some (.ref C)) (hb : Bnd X.K fd ps 1 0 ks src) (tkx : Takes X W)
    (hkw : PK X kws tk) (hall : (backToKw pos (keywordEach kws X.env)).all (·.1.isSome) = true := by rfl) (hks : (backToKw pos (keywordEach kws X.env)).filterMap (·.1) = ks := by rfl)
    (hdb : (x == ("__debug__" : Str)) = false := by decide) (hpl : ((backTo pos (starEach [] X.env)).any (·.1) || (backToKw pos (keywordEach kws X.env)).any (·.1.isNone)) = false := by rfl) :
    PE X (.Call (.Name x p) [] kws pos) (tGm C 0 ks.length sp W src tNil tk) := ⟨fun pins s σ H Q I h =>
  wpAny_Call_Name_kw (ld_glob I hg hm (PySem.W.callWith_KW0 (h₀ := X.base) I.ok.mod.kin M.kp hall (thn (hkw.run pos pins s σ H _ I h) fun ws s2 ⟨zs, H2, I2, rz, l1, l2, q2⟩ => ⟨I2.kIn, by
    rw [hks]; exact make_g (us := []) (vs := []) hG M F hr hb (passAt tkx σ) I2 .nil rz rfl l2 q2⟩) hpl) hdb)⟩
theorem pg_meth {pl : Sem Bool} (hG : X.A.guards = some []) (ho : PE X o ta) {Cs : Addr → Prop} (c : ∀ C, Cs C → Cls X.K C) (hm : ∀ C, Cs C → Meth X.K C mm f) (hkp : PySem.W.keepIn X.K (.ref f) = true) (F : FnG X.prog X.w X.K X.mg X.base k f fd ps sp) (hr : Room k X.A) (hb : Bnd X.K fd ps 1 n ks src) (tkx : Takes X W)
    (ha : PA X (e :: es) t) (hkw : PK X kws tk) (hall : (backToKw pos (keywordEach kws X.env)).all (·.1.isSome) = true := by rfl) (hks : (backToKw pos (keywordEach kws X.env)).filterMap (·.1) = ks := by rfl)
    (he : starEach (e :: es) X.env = (false, eval e X.env) :: starEach es X.env := by rfl) (hpl : ((backTo pos (starEach (e :: es) X.env)).any (·.1) || (backToKw pos (keywordEach kws X.env)).any (·.1.isNone)) = false := by rfl)
    (ht : eval (.Call (.Attribute o mm apos) (e :: es) kws pos) X.env = (do
      let ov ← eval o X.env
      standAt apos.atName
      let (f, first) ← holding [ov] (getMethod ov mm pl)
      callWith pos f first (backTo pos (starEach (e :: es) X.env)) (backToKw pos (keywordEach kws X.env))) := by rfl) :
    PE X (.Call (.Attribute o mm apos) (e :: es) kws pos) (tGo Cs mm n ks.length sp W src ta t tk) := ⟨fun pins s σ H Q I h =>
  PySem.W.methodCall_KW (pl := pl) (thn (ho.run pins s σ H _ I h) fun u s1 ⟨x, H1, I1, rx, C, a, dx, fs, hC, ex, ea, l, q⟩ => by
    subst ex
    obtain rfl : u = Value.ref a := rx
    refine getmeth_ok I1 ea (c C hC) (hm C hC) l (PySem.W.callWith_KW (first := [.ref a]) (h₀ := X.base) I.ok.mod.kin hkp hall (thn (ha.run pos pins s1 σ H1 _ I1 q) fun us s2 ⟨vs, H2, I2, r, q2⟩ => thn (hkw.run pos pins s2 σ H2 _ I2 q2) fun ws s3 ⟨zs, H3, I3, rz, l1, l2, q3⟩ => ⟨I3.kIn, ?_⟩) hpl he)
    rw [hks]
    exact call_g (fs := [.ref a]) (gs := [.ref a]) hG F hr hb (passAt tkx σ) I3 (.cons rfl .nil) r rz rfl l1 l2 q3) ht⟩
theorem pg_meth0 {pl : Sem Bool} (hG : X.A.guards = some []) (ho : PE X o ta) {Cs : Addr → Prop} (c : ∀ C, Cs C → Cls X.K C) (hm : ∀ C, Cs C → Meth X.K C mm f) (hkp : PySem.W.keepIn X.K (.ref f) = true) (F : FnG X.prog X.w X.K X.mg X.base k f fd ps sp) (hr : Room k X.A) (hb : Bnd X.K fd ps 1 0 ks src) (tkx : Takes X W)
    (hkw : PK X kws tk) (hall : (backToKw pos (keywordEach kws X.env)).all (·.1.isSome) = true := by rfl) (hks : (backToKw pos (keywordEach kws X.env)).filterMap (·.1) = ks := by rfl)
    (hpl : ((backTo pos (starEach [] X.env)).any (·.1) || (backToKw pos (keywordEach kws X.env)).any (·.1.isNone)) = false := by rfl)
    (ht : eval (.Call (.Attribute o mm apos) [] kws pos) X.env = (do
      let ov ← eval o X.env
      standAt apos.atName
      let (f, first) ← holding [ov] (getMethod ov mm pl)
      callWith pos f first (backTo pos (starEach [] X.env)) (backToKw pos (keywordEach kws X.env))) := by rfl) :
    PE X (.Call (.Attribute o mm apos) [] kws pos) (tGo Cs mm 0 ks.length sp W src ta tNil tk) := ⟨fun pins s σ H Q I h =>
  PySem.W.methodCall_KW (pl := pl) (thn (ho.run pins s σ H _ I h) fun u s1 ⟨x, H1, I1, rx, C, a, dx, fs, hC, ex, ea, l, q⟩ => by
    subst ex
    obtain rfl : u = Value.ref a := rx
    refine getmeth_ok I1 ea (c C hC) (hm C hC) l (PySem.W.callWith_KW0 (first := [.ref a]) (h₀ := X.base) I.ok.mod.kin hkp hall (thn (hkw.run pos pins s1 σ H1 _ I1 q) fun ws s3 ⟨zs, H3, I3, rz, l1, l2, q3⟩ => ⟨I3.kIn, ?_⟩) hpl)
    rw [hks]
    exact call_g (fs := [.ref a]) (gs := [.ref a]) (us := []) (vs := []) hG F hr hb (passAt tkx σ) I3 (.cons rfl .nil) .nil rz rfl rfl l2 q3) ht⟩
end
end DL

namespace DL
open PySem L2

abbrev Con := List D → (D → Prop) → (XD → Prop) → Prop
abbrev ConM := List D → Mm → (D → Mm → Prop) → (XD → Mm → Prop) → Prop
@[simp] def liftC (C : Con) : ConM := fun ds m Q R => C ds (fun d => Q d m) fun e => R e m
structure Back (K : PySem.W.Frag) (cl : Nat → Addr) (T : List NdefX.NTab) (m : Mm) (P H : Hp) (m' : Mm) (P' H' : Hp) : Prop where
  p : Same P P'
  s : Same P' H'
  t : NoT P'
  tb : NdefX.TabsN T H'
  n : ∀ a o, P' a = some o → (∃ o', P a = some o') ∨ H a = none ∨ ∃ b, m a = some b
  k : ∀ a o, H a = some o → (∀ ps, o ≠ .tbl ps) → m a = none → H' a = some o
  dm : ∀ a o, H a = some o → ∃ o', H' a = some o'
  o : ∀ a b, m' a = some b → (∃ b', m a = some b') ∨ H a = none
  st : ∀ a b, m' a = some b → P' a = none ∧ ObAt K cl P' H' a b
def StOk (K : PySem.W.Frag) (cl : Nat → Addr) (P H : Hp) (m : Mm) : Prop := ∀ a b, m a = some b → P a = none ∧ ObAt K cl P H a b
def spM (K : PySem.W.Frag) (cl : Nat → Addr) (T : List NdefX.NTab) (C : ConM) : Sp := fun vs H Q X => ∃ P m ds Qd Xd, Same P H ∧ NoT P ∧ NdefX.TabsN T H ∧ StOk K cl P H m ∧ IsA K cl P ds vs ∧ C ds m Qd Xd ∧
  (∀ d v m' P' H', Back K cl T m P H m' P' H' → Is K cl P' d v → Qd d m' → Q v H') ∧ ∀ e cls d m' P' H', Back K cl T m P H m' P' H' → XIs K cl P' H' e cls d → Xd e m' → X cls d H'
def Le (m1 m : Mm) : Prop := ∀ a b, m1 a = some b → m a = some b
theorem Le.refl (m : Mm) : Le m m := fun _ _ h => h
theorem Le.m0 (m : Mm) : Le m0 m := fun _ _ h => nomatch h
def ov (m m1 m2 : Mm) : Mm := fun a => match m2 a with
  | some b => some b
  | none => match m1 a with
    | some _ => none
    | none => m a
section
variable {K : PySem.W.Frag} {cl : Nat → Addr} {T : List NdefX.NTab} {m m' m1 m2 : Mm} {P H P' H' : Hp}
theorem Back.le (b : Back K cl T m P H m' P' H') (h : Le m1 m') : Back K cl T m P H m1 P' H' :=
  ⟨b.p, b.s, b.t, b.tb, b.n, b.k, b.dm, fun a c e => b.o a c (h a c e), fun a c e => b.st a c (h a c e)⟩
theorem StOk.le (h : StOk K cl P H m) (l : Le m1 m) : StOk K cl P H m1 := fun a b e => h a b (l a b e)
theorem Back.frame (st : StOk K cl P H m) (l : Le m1 m) (b : Back K cl T m1 P H m2 P' H') : Back K cl T m P H (ov m m1 m2) P' H' where
  p := b.p
  s := b.s
  t := b.t
  tb := b.tb
  n := fun a o e => by
    rcases b.n a o e with h | h | ⟨c, h⟩
    · exact .inl h
    · exact .inr (.inl h)
    · exact .inr (.inr ⟨c, l a c h⟩)
  k := fun a o e t q => b.k a o e t (by
    cases z : m1 a with
    | none => rfl
    | some c => rw [l a c z] at q; cases q)
  dm := b.dm
  o := fun a c e => by
    unfold ov at e
    split at e
    · rename_i q
      rcases b.o a _ q with ⟨b', h⟩ | h
      · exact .inl ⟨b', l a b' h⟩
      · exact .inr h
    · split at e
      · cases e
      · exact .inl ⟨c, e⟩
  st := fun a c e => by
    unfold ov at e
    split at e
    · rename_i q
      cases e
      exact b.st a _ q
    · split at e
      · cases e
      · rename_i q
        obtain ⟨h1, h2⟩ := st a c e
        refine ⟨?_, h2.move b.p fun o x t => b.k a o x t q⟩
        cases z : P' a with
        | none => rfl
        | some u =>
          rcases b.n a u z with ⟨o', h⟩ | h | ⟨c', h⟩
          · rw [h1] at h; cases h
          · obtain ⟨o, x, _⟩ := h2.at_; rw [h] at x; cases x
          · rw [q] at h; cases h
end

section
variable {E : DC} {W : WX} {P P' H H' : Hp} {σ : L2.St} {Γ Γ' : DS} {X : Cx} {m' : Mm}
variable {a b c e o : Expr} {es : List Expr} {ta tb tc te : DE} {pos p apos : Pos} {tas : DA}
theorem Rep.stok (R : Rep E P H σ Γ) : StOk E.K E.cl P H Γ.m := fun a b e => ⟨(R.st a b e).1, (R.st a b e).2.1⟩
theorem Rep.back (R : Rep E P H σ Γ) (b : Back E.K E.cl E.T Γ.m P H m' P' H') : Rep E P' H' σ ⟨Γ.s, m'⟩ where
  sub := b.s
  nt := b.t
  tb := b.tb
  p0 := R.p0.trans b.p
  h0 := fun a o e t n => b.k a o (R.h0 a o e t n) t (by
    cases z : Γ.m a with
    | none => rfl
    | some c =>
      rcases (R.st a c z).2.2 with q | q
      · rw [q] at e; cases e
      · exact absurd q n)
  dm := fun a o e => by
    obtain ⟨o', q⟩ := R.dm a o e
    exact b.dm a o' q
  new := fun a o e => by
    rcases b.n a o e with ⟨o', h⟩ | h | ⟨c, h⟩
    · exact R.new a o' h
    · exact .inr (.inl (none_of_dm R.dm h))
    · exact .inr (R.st a c h).2.2
  len := R.len
  sl := fun i s o e1 e2 => (R.sl i s o e1 e2).mono b.p
  st := fun a c e => by
    obtain ⟨h1, h2⟩ := b.st a c e
    refine ⟨h1, h2, ?_⟩
    rcases b.o a c e with ⟨b', h⟩ | h
    · exact (R.st a b' h).2.2
    · exact .inl (none_of_dm R.dm h)
theorem Gr.back (b : Back E.K E.cl E.T Γ.m P H m' P' H') : Gr σ Γ P H ⟨Γ.s, m'⟩ P' H' := ⟨b.p, b.n, b.k, b.dm, b.o⟩
theorem IsA.of_dvs {K : PySem.W.Frag} {cl : Nat → Addr} {ds : List D} {vs : List V} (h : IsA K cl P ds vs) (dvs : List V) : IsA K cl P (ds ++ dvs.map D.v) (vs ++ dvs) := h.append (.of_atoms dvs)
theorem XIs.mono {K : PySem.W.Frag} {cl : Nat → Addr} {x : XD} {cls : Value} {d : Option Addr} (h : XIs K cl P H x cls d) (s : Same P P') : XIs K cl P' H x cls d := by
  obtain ⟨h1, h2⟩ := h
  refine ⟨h1, ?_⟩
  rcases h2 with h2 | ⟨dd, fs, e, e1, e2, e3⟩
  · exact .inl h2
  · exact .inr ⟨dd, fs, e, s _ _ e1, e2, e3.mono s⟩

theorem dk_nil : PK X [] (upA E W dNil) := ⟨fun pos pins s σ H Q I h => by
  obtain ⟨P, Γ, x, Qd, R, hT, hx, hQ⟩ := h
  exact pk_nil.run pos pins s σ H Q I (hQ _ _ _ _ _ .refl R .nil hT)⟩
theorem dk_cons {nm : Option Str} {kpos : Pos} {kws : List Keyword} (ha : PE X e (up E W ta)) (hr : PK X kws (upA E W tas)) : PK X (⟨nm, e, kpos⟩ :: kws) (upA E W (dCons ta tas)) :=
  ⟨fun pos pins s σ H Q I h => (pk_cons ha hr).run pos pins s σ H Q I (up_cons h)⟩
@[simp] def dCall (C : ConM) (n m : Nat) (src : List Src) (t tk : DA) : DE := fun x Γ Q => t x Γ fun ds Γ1 => tk x Γ1 fun es Γ2 => ds.length = n ∧ es.length = m ∧ C (pickD src ds es) Γ2.m (fun d m' => Q d ⟨Γ2.s, m'⟩) fun e m' => x e ⟨Γ2.s, m'⟩
variable {tks : DA} {n m : Nat} {src : List Src}
theorem up_call {C : ConM} {Q : VK} (h : up E W (dCall C n m src tas tks) σ H Q) : tGf n m (spM E.K E.cl E.T C) W src (upA E W tas) (upA E W tks) σ H Q := by
  obtain ⟨P, Γ, x, Qd, R, hT, hx, hQ⟩ := h
  refine ⟨P, Γ, x, _, R, hT, hx, fun ds Γ1 vs P1 H1 g1 R1 i1 h1 => ?_⟩
  refine ⟨P1, Γ1, x, _, R1, h1, hx, fun es Γ2 zs P2 H2 g2 R2 i2 h2 => ?_⟩
  obtain ⟨l1, l2, h2⟩ := h2
  exact ⟨i1.length.trans l1, i2.length.trans l2, P2, _, _, _, _, R2.sub, R2.nt, R2.tb, R2.stok, (i1.mono g2.p).pick i2 src, h2, fun d v m' P' H' bk i q => hQ _ _ _ _ _ (g1.trans (g2.trans (.back bk))) (R2.back bk) i q, fun e cls d m' P' H' bk xi z => hx e _ _ _ _ _ (R2.back bk) xi z⟩
theorem upA_nil {Q : List V → Hp → Prop} (h : upA E W dNil σ H Q) : tNil σ H Q := by
  obtain ⟨P, Γ, x, Qd, R, hT, hx, hQ⟩ := h
  exact hQ _ _ _ _ _ .refl R .nil hT
variable {k : Nat} {f : Addr} {f' : Str} {fd : FuncData} {ps ks : List Str} {C : ConM} {CI : ConI} {x mm : Str} {kws : List Keyword}
theorem de_call (hG : X.A.guards = some []) (F : FnG X.prog X.w X.K X.mg X.base k f fd ps (spM E.K E.cl E.T C)) (hr : Room k X.A) (hg : Gl X x) (hm : X.mg x = some (.ref f)) (hk : PySem.W.keepIn X.K (.ref f) = true) (hb : Bnd X.K fd ps 0 n ks src) (tkx : Takes X W)
    (ha : PA X (e :: es) (upA E W tas)) (hkw : PK X kws (upA E W tks)) (hall : (backToKw pos (keywordEach kws X.env)).all (·.1.isSome) = true := by rfl) (hks : (backToKw pos (keywordEach kws X.env)).filterMap (·.1) = ks := by rfl)
    (hdb : (x == ("__debug__" : Str)) = false := by decide) (he : starEach (e :: es) X.env = (false, eval e X.env) :: starEach es X.env := by rfl)
    (hpl : ((backTo pos (starEach (e :: es) X.env)).any (·.1) || (backToKw pos (keywordEach kws X.env)).any (·.1.isNone)) = false := by rfl) :
    PE X (.Call (.Name x p) (e :: es) kws pos) (up E W (dCall C n ks.length src tas tks)) := impE (pg_call hG F hr hg hm hk hb tkx ha hkw hall hks hdb he hpl) fun _ _ _ h => up_call h
theorem de_call0 (hG : X.A.guards = some []) (F : FnG X.prog X.w X.K X.mg X.base k f fd ps (spM E.K E.cl E.T C)) (hr : Room k X.A) (hg : Gl X x) (hm : X.mg x = some (.ref f)) (hk : PySem.W.keepIn X.K (.ref f) = true) (hb : Bnd X.K fd ps 0 0 ks src) (tkx : Takes X W)
    (hkw : PK X kws (upA E W tks)) (hall : (backToKw pos (keywordEach kws X.env)).all (·.1.isSome) = true := by rfl) (hks : (backToKw pos (keywordEach kws X.env)).filterMap (·.1) = ks := by rfl)
    (hdb : (x == ("__debug__" : Str)) = false := by decide) (hpl : ((backTo pos (starEach [] X.env)).any (·.1) || (backToKw pos (keywordEach kws X.env)).any (·.1.isNone)) = false := by rfl) :
    PE X (.Call (.Name x p) [] kws pos) (up E W (dCall C 0 ks.length src dNil tks)) := impE (pg_call0 hG F hr hg hm hk hb tkx hkw hall hks hdb hpl) fun σ H Q h => upA_nil (up_call h)
def idx (f : Str) : List Str → Option Nat
  | [] => none
  | g :: r => if f = g then some 0 else (idx f r).map (· + 1)
theorem lookup_idx {f : Str} : ∀ {fs : List (Str × V)} {k : Nat} {v : V}, idx f (fs.map (·.1)) = some k → (fs.map (·.2))[k]? = some v → fs.lookup f = some v
  | [], k, v, h, _ => by simp [idx] at h
  | (g, y) :: r, k, v, h, h2 => by
    rw [List.map_cons] at h h2
    unfold idx at h
    by_cases e : f = g
    · rw [if_pos e] at h
      cases h
      simp only [List.getElem?_cons_zero, Option.some.injEq] at h2
      subst h2
      have hb : (f == g) = true := beq_iff_eq.mpr e
      simp only [List.lookup, hb]
    · rw [if_neg e] at h
      have hb : (f == g) = false := beq_eq_false_iff_ne.mpr e
      simp only [Option.map_eq_some_iff] at h
      obtain ⟨j, h1, rfl⟩ := h
      simp only [List.lookup, hb]
      exact lookup_idx h1 (by simpa using h2)
theorem lookup_noidx {f : Str} : ∀ {fs : List (Str × V)}, idx f (fs.map (·.1)) = none → fs.lookup f = none
  | [], _ => rfl
  | (g, y) :: r, h => by
    rw [List.map_cons] at h
    unfold idx at h
    by_cases e : f = g
    · rw [if_pos e] at h; cases h
    · rw [if_neg e] at h
      have hb : (f == g) = false := beq_eq_false_iff_ne.mpr e
      simp only [Option.map_eq_none_iff] at h
      simp only [List.lookup, hb]
      exact lookup_noidx h
def clsOf (m : Mm) : D → Option (Nat × List Str × List D)
  | .obj c ns ws => if c < 100 then some (c, ns, ws) else none
  | .v (.ref a) => match m a with
    | some (.ins c _ ns ws) => if c < 100 then some (c, ns, ws) else none
    | _ => none
  | _ => none
@[simp] theorem clsOf_obj {m : Mm} {c : Nat} {ns : List Str} {ws : List D} : clsOf m (.obj c ns ws) = if c < 100 then some (c, ns, ws) else none := rfl
theorem clsOf_own {m : Mm} {a dx : Addr} {c : Nat} {ns : List Str} {ws : List D} (h : m a = some (.ins c dx ns ws)) (hc : c < 100 := by decide) : clsOf m (.v (.ref a)) = some (c, ns, ws) := by simp only [clsOf, h, if_pos hc]
theorem clsOf_ok (R : Rep E P H σ Γ) {d : D} {v : V} {cc : Nat} {ns : List Str} {ws : List D} (i : Is E.K E.cl P d v) (e : clsOf Γ.m d = some (cc, ns, ws)) :
    ∃ q dx fs, v = .ref q ∧ H q = some (.ins (E.cl cc) dx fs) ∧ fs.map (·.1) = ns ∧ IsA E.K E.cl P ws (fs.map (·.2)) ∧ cc < 100 := by
  unfold clsOf at e
  split at e
  · split at e
    · rename_i hc
      cases e
      obtain ⟨q, dx, fs, rfl, hq, hk, hw⟩ := i.obj_inv
      exact ⟨q, dx, fs, rfl, R.sub _ _ hq, hk, hw, hc⟩
    · cases e
  · rename_i a
    split at e
    · rename_i c' dx ns' ws' em
      split at e
      · rename_i hc
        cases e
        obtain ⟨_, ⟨fs, h1, h2, h3⟩, _⟩ := R.st a _ em
        rw [i.v_inv]
        exact ⟨a, _, fs, rfl, h1, h2, h3, hc⟩
      · cases e
    · cases e
  · cases e
@[simp] def dFld (f : Str) (ta : DE) : DE := fun x Γ Q => ta x Γ fun d Γ1 => match clsOf Γ1.m d with
  | some (_, ns, ws) => match idx f ns with
    | some k => match ws[k]? with
      | some w => Q w Γ1
      | none => False
    | none => False
  | none => False
theorem de_fld (hK : X.K = E.K) (hc : ∀ c, c < 100 → Cls E.K (E.cl c)) (hn : ∀ c, c < 100 → NoAttr E.K (E.cl c) f') (ha : PE X a (up E W ta)) (hb : attributeBase a f' X.env (eval a X.env) = eval a X.env := by rfl) : PE X (.Attribute a f' pos) (up E W (dFld f' ta)) :=
  impE (pe_fld ha hb) fun σ H Q h => by
    obtain ⟨P, Γ, x, Qd, R, hT, hx, hQ⟩ := h
    refine ⟨P, Γ, x, _, R, hT, hx, fun d Γ1 v P1 H1 g1 R1 i1 h1 => ?_⟩
    split at h1
    · rename_i ec
      split at h1
      · rename_i k ek
        split at h1
        · rename_i w ew
          obtain ⟨q, dx, fs, rfl, hq, rfl, hw, hlt⟩ := clsOf_ok R1 i1 ec
          obtain ⟨v, e1, e2⟩ := hw.get ew
          exact ⟨q, _, dx, fs, v, rfl, hq, by rw [hK]; exact hc _ hlt, by rw [hK]; exact hn _ hlt, lookup_idx ek e1, hQ _ _ _ _ _ g1 R1 e2 h1⟩
        · exact h1.elim
      · exact h1.elim
    · exact h1.elim
@[simp] def dProp (cs : List Nat) (C : ConM) (ta : DE) : DE := fun x Γ Q => ta x Γ fun d Γ1 => match clsOf Γ1.m d with
  | some (c', _, _) => c' ∈ cs ∧ C [d] Γ1.m (fun d m' => Q d ⟨Γ1.s, m'⟩) fun _ _ => False
  | none => False
theorem prop_g {pins : List (Addr × Obj)} {s : Shared} {Q : VK} {b : Bool} {E' : Value → Shared → Prop} {C a pp g dx : Addr} {fs : List (Str × V)} {sp : Sp} (hG : X.A.guards = some []) (I : Inv X pins σ H s) (ea : H a = some (.ins C dx fs)) (c : Cls X.K C) (hp : PropOf X.K C f' pp g)
    (F : FnG X.prog X.w X.K X.mg X.base k g fd ps sp) (hr : Room (k + 1) X.A) (hb : Bnd X.K fd ps 1 0 [] []) (h : sp [.ref a] H Q E0) : wpAny (model X.prog X.w) X.A (getAttr (.ref a) f' b) (EP X pins σ Q) E' s := by
  obtain ⟨mA, O, _⟩ := ins_get I.hok ea
  obtain ⟨od, J, _⟩ := O.look
  obtain ⟨rest, hrec⟩ := hp.rec_
  obtain ⟨cd, hcd, _⟩ := PySem.W.any_some c.hd
  have I1 := I.tok (s.toks + 1)
  refine PySem.W.get_bind I.kIn J (PySem.W.plainGet_of (c.get f')).1 (PySem.W.findObj_data (by rw [hcd]; rfl) hp.at_ hp.get hp.tak) (PySem.W.plainGet_of (c.get f')).2 (wpAny_call (PySem.W.prop_get (s := { s with toks := s.toks + 1 }) I.kIn hrec ?_))
  refine code_g1 (A := X.A.in1) (gs := [.ref a]) hG I.ok.frames F hr.in1 hb I1 (.cons rfl .nil) rfl h fun u s' q => ?_
  obtain ⟨v, H', I3, rv, q3⟩ := q
  show wpAny _ _ (handedOut u) _ _ _
  rw [PySem.W.handedOut_of (handed_of rv)]
  exact wpAny_pure ⟨v, H', I3, rv, q3⟩
theorem de_prop {cs : List Nat} {pp g : Addr} (hG : X.A.guards = some []) (hc : ∀ c ∈ cs, Cls X.K (E.cl c)) (hp : ∀ c ∈ cs, PropOf X.K (E.cl c) f' pp g) (F : FnG X.prog X.w X.K X.mg X.base k g fd ps (spM E.K E.cl E.T C)) (hr : Room (k + 1) X.A) (hb : Bnd X.K fd ps 1 0 [] []) (ha : PE X a (up E W ta))
    (hab : attributeBase a f' X.env (eval a X.env) = eval a X.env := by rfl) : PE X (.Attribute a f' pos) (up E W (dProp cs C ta)) := ⟨fun pins s σ H Q I h =>
  attr_of hab (thn (ha.run pins s σ H (fun v H1 => ∃ q c dx fs, c ∈ cs ∧ v = .ref q ∧ H1 q = some (.ins (E.cl c) dx fs) ∧ spM E.K E.cl E.T C [.ref q] H1 Q E0) I (by
    obtain ⟨P, Γ, x, Qd, R, hT, hx, hQ⟩ := h
    refine ⟨P, Γ, x, _, R, hT, hx, fun d Γ1 v P1 H1 g1 R1 i1 h1 => ?_⟩
    split at h1
    · rename_i c' ns ws ec
      obtain ⟨hcs, h1⟩ := h1
      have i1' := i1
      obtain ⟨q, dx, fs, rfl, hq, rfl, hw, hlt⟩ := clsOf_ok R1 i1 ec
      exact ⟨q, c', dx, fs, hcs, rfl, hq, P1, _, _, _, _, R1.sub, R1.nt, R1.tb, R1.stok, .cons i1' .nil, h1, fun d v m' P' H' bk i q => hQ _ _ _ _ _ (g1.trans (.back bk)) (R1.back bk) i q, fun _ _ _ _ _ _ _ _ z => z.elim⟩
    · exact h1.elim)) fun u s1 ⟨v, H1, I1, rv, q, c, dx, fs, hcs, ev, ea, hsp⟩ => by
      subst ev
      obtain rfl : u = Value.ref q := rv
      exact prop_g hG I1 ea (hc c hcs) (hp c hcs) F hr hb hsp)⟩
@[simp] def dMeth (cs : List Nat) (mm : Str) (C : ConM) (n m : Nat) (src : List Src) (ta : DE) (t tk : DA) : DE := fun x Γ Q => ta x Γ fun d Γ1 => match clsOf Γ1.m d with
  | some (c', ns, _) => c' ∈ cs ∧ idx mm ns = none ∧ t x Γ1 fun ds Γ2 => tk x Γ2 fun es Γ3 => ds.length = n ∧ es.length = m ∧ C (d :: pickD src ds es) Γ3.m (fun d m' => Q d ⟨Γ3.s, m'⟩) fun e m' => x e ⟨Γ3.s, m'⟩
  | none => False
def inCs (cl : Nat → Addr) (cs : List Nat) : Addr → Prop := fun C => ∃ c ∈ cs, C = cl c
theorem up_meth {cs : List Nat} {Q : VK} (h : up E W (dMeth cs mm C n m src ta tas tks) σ H Q) : tGo (inCs E.cl cs) mm n m (spM E.K E.cl E.T C) W src (up E W ta) (upA E W tas) (upA E W tks) σ H Q := by
  obtain ⟨P, Γ, x, Qd, R, hT, hx, hQ⟩ := h
  refine ⟨P, Γ, x, _, R, hT, hx, fun d Γ1 v P1 H1 g1 R1 i1 h1 => ?_⟩
  split at h1
  · rename_i c' ns ws ec
    obtain ⟨hcs, hn, h1⟩ := h1
    have i1' := i1
    obtain ⟨q, dx, fs, rfl, hq, rfl, hw, hlt⟩ := clsOf_ok R1 i1 ec
    refine ⟨_, q, dx, fs, ⟨c', hcs, rfl⟩, rfl, hq, lookup_noidx hn, P1, Γ1, x, _, R1, h1, hx, fun ds Γ2 vs P2 H2 g2 R2 i2 h2 => ?_⟩
    refine ⟨P2, Γ2, x, _, R2, h2, hx, fun es Γ3 zs P3 H3 g3 R3 i3 h3 => ?_⟩
    obtain ⟨l1, l2, h3⟩ := h3
    exact ⟨i2.length.trans l1, i3.length.trans l2, P3, _, _, _, _, R3.sub, R3.nt, R3.tb, R3.stok, .cons (i1'.mono (g2.p.trans g3.p)) ((i2.mono g3.p).pick i3 src), h3, fun d v m' P' H' bk i q => hQ _ _ _ _ _ (g1.trans (g2.trans (g3.trans (.back bk)))) (R3.back bk) i q, fun e cls d m' P' H' bk xi z => hx e _ _ _ _ _ (R3.back bk) xi z⟩
  · exact h1.elim
theorem de_meth {pl : Sem Bool} {cs : List Nat} (hG : X.A.guards = some []) (ho : PE X o (up E W ta)) (hc : ∀ c ∈ cs, Cls X.K (E.cl c)) (hm : ∀ c ∈ cs, Meth X.K (E.cl c) mm f) (hkp : PySem.W.keepIn X.K (.ref f) = true) (F : FnG X.prog X.w X.K X.mg X.base k f fd ps (spM E.K E.cl E.T C)) (hr : Room k X.A) (hb : Bnd X.K fd ps 1 n ks src) (tkx : Takes X W)
    (ha : PA X (e :: es) (upA E W tas)) (hkw : PK X kws (upA E W tks)) (hall : (backToKw pos (keywordEach kws X.env)).all (·.1.isSome) = true := by rfl) (hks : (backToKw pos (keywordEach kws X.env)).filterMap (·.1) = ks := by rfl)
    (he : starEach (e :: es) X.env = (false, eval e X.env) :: starEach es X.env := by rfl) (hpl : ((backTo pos (starEach (e :: es) X.env)).any (·.1) || (backToKw pos (keywordEach kws X.env)).any (·.1.isNone)) = false := by rfl)
    (ht : eval (.Call (.Attribute o mm apos) (e :: es) kws pos) X.env = (do
      let ov ← eval o X.env
      standAt apos.atName
      let (f, first) ← holding [ov] (getMethod ov mm pl)
      callWith pos f first (backTo pos (starEach (e :: es) X.env)) (backToKw pos (keywordEach kws X.env))) := by rfl) :
    PE X (.Call (.Attribute o mm apos) (e :: es) kws pos) (up E W (dMeth cs mm C n ks.length src ta tas tks)) := impE (pg_meth (pl := pl) (Cs := inCs E.cl cs) hG ho (fun _ ⟨c, h, z⟩ => z ▸ hc c h) (fun _ ⟨c, h, z⟩ => z ▸ hm c h) hkp F hr hb tkx ha hkw hall hks he hpl ht) fun _ _ _ h => up_meth h
theorem de_meth0 {pl : Sem Bool} {cs : List Nat} (hG : X.A.guards = some []) (ho : PE X o (up E W ta)) (hc : ∀ c ∈ cs, Cls X.K (E.cl c)) (hm : ∀ c ∈ cs, Meth X.K (E.cl c) mm f) (hkp : PySem.W.keepIn X.K (.ref f) = true) (F : FnG X.prog X.w X.K X.mg X.base k f fd ps (spM E.K E.cl E.T C)) (hr : Room k X.A) (hb : Bnd X.K fd ps 1 0 ks src) (tkx : Takes X W)
    (hkw : PK X kws (upA E W tks)) (hall : (backToKw pos (keywordEach kws X.env)).all (·.1.isSome) = true := by rfl) (hks : (backToKw pos (keywordEach kws X.env)).filterMap (·.1) = ks := by rfl)
    (hpl : ((backTo pos (starEach [] X.env)).any (·.1) || (backToKw pos (keywordEach kws X.env)).any (·.1.isNone)) = false := by rfl)
    (ht : eval (.Call (.Attribute o mm apos) [] kws pos) X.env = (do
      let ov ← eval o X.env
      standAt apos.atName
      let (f, first) ← holding [ov] (getMethod ov mm pl)
      callWith pos f first (backTo pos (starEach [] X.env)) (backToKw pos (keywordEach kws X.env))) := by rfl) :
    PE X (.Call (.Attribute o mm apos) [] kws pos) (up E W (dMeth cs mm C 0 ks.length src ta dNil tks)) := impE (pg_meth0 (pl := pl) (Cs := inCs E.cl cs) hG ho (fun _ ⟨c, h, z⟩ => z ▸ hc c h) (fun _ ⟨c, h, z⟩ => z ▸ hm c h) hkp F hr hb tkx hkw hall hks hpl ht) fun σ H Q h => by
  have q := up_meth h
  obtain ⟨P, Γ, x, Qd, R, hT, hx, hQ⟩ := q
  exact ⟨P, Γ, x, Qd, R, hT, hx, fun d Γ' v P' H' g R' i z => by
    obtain ⟨C, a, dx, fs, e0, e1, e2, e3, e4⟩ := hQ d Γ' v P' H' g R' i z
    exact ⟨C, a, dx, fs, e0, e1, e2, e3, upA_nil e4⟩⟩
@[simp] def dMake (fz : Bool) (c : Nat) (C : ConM) (n m : Nat) (src : List Src) (t tk : DA) : DE := fun x Γ Q => t x Γ fun ds Γ1 => tk x Γ1 fun es Γ2 => ds.length = n ∧ es.length = m ∧
  ∀ y dx, Γ2.m y = none → C (.v (.ref y) :: pickD src ds es) (Γ2.put y (some (.ins c dx [] []))).m
    (fun d m' => d = .v .non ∧ if fz = true then ∃ ns ws, m' y = some (.ins c dx ns ws) ∧ Q (.obj c ns ws) ⟨Γ2.s, fun a => if a = y then none else m' a⟩ else Q (.v (.ref y)) ⟨Γ2.s, m'⟩) fun e m' => x e ⟨Γ2.s, fun a => if a = y then none else m' a⟩
theorem make_rep {x dx : Addr} {c : Nat} (R : Rep E P H σ Γ) (hx : H x = none) (hd : H dx = none) (hne : dx ≠ x) : Rep E P (upd (upd H dx (.own x)) x (.ins (E.cl c) dx [])) σ (Γ.put x (some (.ins c dx [] []))) ∧ Gr σ Γ P H (Γ.put x (some (.ins c dx [] []))) P (upd (upd H dx (.own x)) x (.ins (E.cl c) dx [])) := by
  have R1 := R.fresh (.own x) hd
  have hx1 : upd H dx (.own x) x = none := by rw [upd_ne (Ne.symm hne)]; exact hx
  have R2 := R1.own_put (a := x) (b := .ins c dx [] []) (H' := upd (upd H dx (.own x)) x (.ins (E.cl c) dx [])) (R.pnone hx) (fun b hb => upd_ne hb) (fun ps => by rw [hx1]; nofun) (fun ps => by rw [hx1]; nofun) ⟨[], upd_same, rfl, .nil⟩ (.inl (R.h0none hx))
  refine ⟨R2, (Gr.fresh (σ := σ) (Γ := Γ) (P := P) (.own x) hd).trans ⟨Same.refl P, fun a o e => .inl ⟨o, e⟩, fun a o e _ _ => by rw [upd_ne (ne_of_none e hx1)]; exact e, fun a o e => ⟨o, by rw [upd_ne (ne_of_none e hx1)]; exact e⟩, fun a b e => ?_⟩⟩
  simp only [DS.put] at e
  by_cases z : a = x
  · subst z; exact .inr hx1
  · rw [if_neg z] at e; exact .inl ⟨b, e⟩
theorem Gr.le {m' : Mm} (g : Gr σ Γ P H Γ' P' H') (l : Le m' Γ'.m) : Gr σ Γ P H ⟨Γ'.s, m'⟩ P' H' := ⟨g.p, g.n, g.k, g.dm, fun a b e => g.o a b (l a b e)⟩
theorem Rep.le {m' : Mm} (R : Rep E P H σ Γ) (l : Le m' Γ.m) : Rep E P H σ ⟨Γ.s, m'⟩ := ⟨R.sub, R.nt, R.tb, R.p0, R.h0, R.dm, R.new, R.len, R.sl, fun a b e => R.st a b (l a b e)⟩
theorem le_del {y : Addr} {m' : Mm} : Le (fun a => if a = y then none else m' a) m' := fun a b e => by
  dsimp only at e
  by_cases z : a = y
  · rw [if_pos z] at e; cases e
  · rw [if_neg z] at e; exact e
theorem Rep.freeze {y dx : Addr} {c : Nat} {ns : List Str} {ws : List D} (R : Rep E P H σ Γ) (h : Γ.m y = some (.ins c dx ns ws)) : ∃ o, Rep E (upd P y o) H σ ⟨Γ.s, fun a => if a = y then none else Γ.m a⟩ ∧ Gr σ Γ P H ⟨Γ.s, fun a => if a = y then none else Γ.m a⟩ (upd P y o) H ∧ Is E.K E.cl (upd P y o) (.obj c ns ws) (.ref y) := by
  obtain ⟨h1, ⟨fs, h2, h3, h4⟩, h5⟩ := R.st y _ h
  have R1 := (R.le (le_del (y := y) (m' := Γ.m))).know h2 (fun ps => nofun) h1 h5 (if_pos rfl)
  refine ⟨_, R1, ⟨same_upd h1, fun a o e => ?_, fun a o e _ _ => e, fun a o e => ⟨o, e⟩, fun a b e => .inl ⟨b, le_del a b e⟩⟩, .obj upd_same h3 (h4.mono (same_upd h1))⟩
  by_cases z : a = y
  · subst z; exact .inr (.inr ⟨_, h⟩)
  · rw [upd_ne z] at e; exact .inl ⟨o, e⟩
theorem up_make {fz : Bool} {cn : Nat} {Q : VK} (h : up E W (dMake fz cn C n m src tas tks) σ H Q) : tGm (E.cl cn) n m (spM E.K E.cl E.T C) W src (upA E W tas) (upA E W tks) σ H Q := by
  obtain ⟨P, Γ, x, Qd, R, hT, hx, hQ⟩ := h
  refine ⟨P, Γ, x, _, R, hT, hx, fun ds Γ1 vs P1 H1 g1 R1 i1 h1 => ?_⟩
  refine ⟨P1, Γ1, x, _, R1, h1, hx, fun es Γ2 zs P2 H2 g2 R2 i2 h2 => ?_⟩
  obtain ⟨l1, l2, h2⟩ := h2
  refine ⟨i1.length.trans l1, i2.length.trans l2, fun y dx hy hdx hne => ?_⟩
  obtain ⟨R3, g3⟩ := make_rep (c := cn) R2 hy hdx hne
  refine ⟨P2, _, _, _, _, R3.sub, R3.nt, R3.tb, R3.stok, .cons .v ((i1.mono g2.p).pick i2 src), h2 y dx (R2.mnone hy), fun d v m' P' H' bk i q => ?_, fun e cls d m' P' H' bk xi z => ?_⟩
  · obtain ⟨rfl, q⟩ := q
    refine ⟨i.v_inv, ?_⟩
    have R4 := R3.back bk
    have g4 := (g1.trans (g2.trans (g3.trans (.back bk))))
    cases fz with
    | true =>
      rw [if_pos rfl] at q
      obtain ⟨ns, ws, e, q⟩ := q
      obtain ⟨o, R5, g5, i5⟩ := R4.freeze e
      exact hQ _ _ _ _ _ (g4.trans g5) R5 i5 q
    | false =>
      rw [if_neg Bool.false_ne_true] at q
      exact hQ _ _ _ _ _ g4 R4 .v q
  · exact hx e _ _ _ _ _ ((R3.back bk).le le_del) xi z
theorem de_make {fz : Bool} {cn : Nat} (hG : X.A.guards = some []) (M : Mk X.K (E.cl cn) f) (F : FnG X.prog X.w X.K X.mg X.base k f fd ps (spM E.K E.cl E.T C)) (hr : Room (k + 1) X.A) (hg : Gl X x) (hm : X.mg x = some (.ref (E.cl cn))) (hb : Bnd X.K fd ps 1 n ks src) (tkx : Takes X W)
    (ha : PA X (e :: es) (upA E W tas)) (hkw : PK X kws (upA E W tks)) (hall : (backToKw pos (keywordEach kws X.env)).all (·.1.isSome) = true := by rfl) (hks : (backToKw pos (keywordEach kws X.env)).filterMap (·.1) = ks := by rfl)
    (hdb : (x == ("__debug__" : Str)) = false := by decide) (he : starEach (e :: es) X.env = (false, eval e X.env) :: starEach es X.env := by rfl)
    (hpl : ((backTo pos (starEach (e :: es) X.env)).any (·.1) || (backToKw pos (keywordEach kws X.env)).any (·.1.isNone)) = false := by rfl) :
    PE X (.Call (.Name x p) (e :: es) kws pos) (up E W (dMake fz cn C n ks.length src tas tks)) := impE (pg_make hG M F hr hg hm hb tkx ha hkw hall hks hdb he hpl) fun _ _ _ h => up_make h
theorem de_make0 {fz : Bool} {cn : Nat} (hG : X.A.guards = some []) (M : Mk X.K (E.cl cn) f) (F : FnG X.prog X.w X.K X.mg X.base k f fd ps (spM E.K E.cl E.T C)) (hr : Room (k + 1) X.A) (hg : Gl X x) (hm : X.mg x = some (.ref (E.cl cn))) (hb : Bnd X.K fd ps 1 0 ks src) (tkx : Takes X W)
    (hkw : PK X kws (upA E W tks)) (hall : (backToKw pos (keywordEach kws X.env)).all (·.1.isSome) = true := by rfl) (hks : (backToKw pos (keywordEach kws X.env)).filterMap (·.1) = ks := by rfl)
    (hdb : (x == ("__debug__" : Str)) = false := by decide) (hpl : ((backTo pos (starEach [] X.env)).any (·.1) || (backToKw pos (keywordEach kws X.env)).any (·.1.isNone)) = false := by rfl) :
    PE X (.Call (.Name x p) [] kws pos) (up E W (dMake fz cn C 0 ks.length src dNil tks)) := impE (pg_make0 hG M F hr hg hm hb tkx hkw hall hks hdb hpl) fun σ H Q h => upA_nil (up_make h)
abbrev ConI := List D → (List Str → List D → Prop) → (XD → Prop) → Prop
@[simp] def initC (c : Nat) (C : ConI) : ConM := fun ds m Q R => ∃ y dx ds', ds = .v (.ref y) :: ds' ∧ m y = some (.ins c dx [] []) ∧ C ds' (fun ns ws => Q (.v .non) fun a => if a = y then some (.ins c dx ns ws) else m a) fun e => R e fun a => if a = y then none else m a
end
end DL

namespace DL
open PySem L2

section
variable {E : DC} {W : WX} {P P' H H' : Hp} {σ σ' : L2.St} {Γ Γ' : DS} {X : Cx}
theorem SLk.grow {De : DEnds} {D : Ends} (L : SLk E W P De D) (s : Same P P') : SLk E W P' De D :=
  ⟨fun σ' Γ' P' H' s' => L.nx σ' Γ' P' H' (s.trans s'), fun d v σ' Γ' P' H' s' => L.rt d v σ' Γ' P' H' (s.trans s'), fun σ' Γ' P' H' s' => L.bk σ' Γ' P' H' (s.trans s'), fun σ' Γ' P' H' s' => L.ct σ' Γ' P' H' (s.trans s'), L.ex⟩

theorem Rep.setD (R : Rep E P H σ Γ) {i : Nat} {d : D} {v : V} (h : Is E.K E.cl P d v) : Rep E P H (σ.set i (some v)) (Γ.set i (.d d)) where
  sub := R.sub
  nt := R.nt
  tb := R.tb
  p0 := R.p0
  h0 := R.h0
  dm := R.dm
  new := R.new
  len := by rw [List.length_set, DS.set, List.length_set]; exact R.len
  sl := fun j s o e1 e2 => by
    simp only [DS.set] at e1
    by_cases e : i = j
    · subst e
      rw [List.getElem?_set] at e1 e2
      simp only [if_true] at e1 e2
      split at e1
      · split at e2
        · cases e1; cases e2; exact ⟨v, rfl, h⟩
        · cases e2
      · cases e1
    · rw [List.getElem?_set_ne e] at e1 e2
      exact R.sl j s o e1 e2
  st := R.st
theorem Gr.set (i : Nat) (x : Sl) (g : Gr σ Γ P H Γ' P' H') : Gr σ Γ P H (Γ'.set i x) P' H' := ⟨g.p, g.n, g.k, g.dm, g.o⟩

variable {st : Stmt} {rest : List Stmt} {t u : DST} {e : Expr} {te : DE} {pos : Pos}
@[simp] def dNext : DST := fun De Γ => De.nx Γ
@[simp] def dSeq (t u : DST) : DST := fun De Γ => t { De with nx := u De } Γ
theorem ds_nil : PSs X [] (upS E W dNext) := impSs pss_nil fun D σ H h => by
  obtain ⟨P, Γ, De, R, hT, L⟩ := h
  exact L.nx _ _ _ _ (Same.refl P) R hT
theorem ds_cons (h1 : PS X st (upS E W t)) (h2 : PSs X rest (upS E W u)) : PSs X (st :: rest) (upS E W (dSeq t u)) := impSs (pss_cons h1 h2) fun D σ H h => by
  obtain ⟨P, Γ, De, R, hT, L⟩ := h
  exact ⟨P, Γ, _, R, hT, ⟨fun σ' Γ' P' H' s R' q => ⟨P', Γ', De, R', q, L.grow s⟩, L.rt, L.bk, L.ct, L.ex⟩⟩
theorem ds_one (h1 : PS X st (upS E W t)) : PSs X [st] (upS E W t) := pss_one h1
theorem d_pass : PS X (.Pass pos) (upS E W dNext) := impS ps_pass fun D σ H h => by
  obtain ⟨P, Γ, De, R, hT, L⟩ := h
  exact L.nx _ _ _ _ (Same.refl P) R hT
@[simp] def dBreak : DST := fun De Γ => De.bk Γ
@[simp] def dCont : DST := fun De Γ => De.ct Γ
theorem d_break : PS X (.Break pos) (upS E W dBreak) := impS ps_break fun D σ H h => by
  obtain ⟨P, Γ, De, R, hT, L⟩ := h
  exact L.bk _ _ _ _ (Same.refl P) R hT
theorem d_continue : PS X (.Continue pos) (upS E W dCont) := impS ps_continue fun D σ H h => by
  obtain ⟨P, Γ, De, R, hT, L⟩ := h
  exact L.ct _ _ _ _ (Same.refl P) R hT
@[simp] def dNever : DST := fun _ _ => False
theorem d_never : PS X st (upS E W dNever) := impS ps_never fun D σ H h => by
  obtain ⟨P, Γ, De, R, hT, L⟩ := h
  exact hT.elim
theorem ds_never : PSs X rest (upS E W dNever) := impSs pss_never fun D σ H h => by
  obtain ⟨P, Γ, De, R, hT, L⟩ := h
  exact hT.elim
@[simp] def dDrop (te : DE) : DST := fun De Γ => te De.ex Γ fun _ Γ1 => De.nx Γ1
theorem d_expr (he : PE X e (up E W te)) (hs : swapsWith e none pos.line X.env = pure false := by rfl) : PS X (.Expr e pos) (upS E W (dDrop te)) := impS (ps_expr he hs) fun D σ H h => by
  obtain ⟨P, Γ, De, R, hT, L⟩ := h
  exact ⟨P, Γ, _, _, R, hT, L.ex σ, fun d Γ1 v P1 H1 g1 R1 i1 h1 => L.nx _ _ _ _ g1.p R1 h1⟩
@[simp] def dRet (te : DE) : DST := fun De Γ => te De.ex Γ De.rt
theorem d_ret (he : PE X e (up E W te)) : PS X (.Return (some e) pos) (upS E W (dRet te)) := impS (ps_ret he) fun D σ H h => by
  obtain ⟨P, Γ, De, R, hT, L⟩ := h
  exact ⟨P, Γ, _, _, R, hT, L.ex σ, fun d Γ1 v P1 H1 g1 R1 i1 h1 => L.rt _ _ _ _ _ _ g1.p R1 i1 h1⟩
@[simp] def dRetN : DST := fun De Γ => De.rt (.v .non) Γ
theorem d_retN : PS X (.Return none pos) (upS E W dRetN) := impS ps_retN fun D σ H h => by
  obtain ⟨P, Γ, De, R, hT, L⟩ := h
  exact L.rt _ _ _ _ _ _ (Same.refl P) R .v hT
@[simp] def dIfS (c : DT) (t u : DST) : DST := fun De Γ => c De.ex Γ fun k Γ1 => if k = true then t De Γ1 else u De Γ1
theorem d_if {c : Expr} {a b : List Stmt} {tc : DT} (hc : PT X c (upT E W tc)) (ha : PSs X a (upS E W t)) (hb : PSs X b (upS E W u)) : PS X (.If c a b pos) (upS E W (dIfS tc t u)) := impS (ps_if hc ha hb) fun D σ H h => by
  obtain ⟨P, Γ, De, R, hT, L⟩ := h
  refine ⟨P, Γ, _, _, R, hT, L.ex σ, fun k Γ1 P1 H1 g1 R1 h1 => ?_⟩
  cases k with
  | true => exact ⟨P1, Γ1, De, R1, h1, L.grow g1.p⟩
  | false => exact ⟨P1, Γ1, De, R1, h1, L.grow g1.p⟩

abbrev DG := D → DS → (DS → Prop) → Prop
def upG (E : DC) (ts : List Nat) (G : DG) : TG := fun v σ H Q => ∃ P Γ d Qd, Rep E P H σ Γ ∧ Is E.K E.cl P d v ∧ G d Γ Qd ∧
  ∀ σ' Γ' P' H', Gr σ Γ P H Γ' P' H' → Rep E P' H' σ' Γ' → (∀ vs : List Nat, (∀ i ∈ ts, i ∈ vs) → wipe σ' vs = wipe σ vs) → Qd Γ' → Q σ' H'
abbrev DGs := List D → DS → (DS → Prop) → Prop
def upGs (E : DC) (ts : List Nat) (G : DGs) : TGs := fun vs σ H Q => ∃ P Γ ds Qd, Rep E P H σ Γ ∧ IsA E.K E.cl P ds vs ∧ G ds Γ Qd ∧
  ∀ σ' Γ' P' H', Gr σ Γ P H Γ' P' H' → Rep E P' H' σ' Γ' → (∀ vs : List Nat, (∀ i ∈ ts, i ∈ vs) → wipe σ' vs = wipe σ vs) → Qd Γ' → Q σ' H'
@[simp] def dName (i : Nat) : DG := fun d Γ Q => Q (Γ.set i (.d d))
@[simp] def dGNil : DGs := fun ds Γ Q => ds = [] ∧ Q Γ
@[simp] def dGCons (g : DG) (h : DGs) : DGs := fun ds Γ Q => match ds with
  | d :: r => g d Γ fun Γ1 => h r Γ1 Q
  | [] => False
@[simp] def dGTup (n : Nat) (g : DGs) : DG := fun d Γ Q => match d with
  | .tup ds => ds.length = n ∧ g ds Γ Q
  | _ => False
theorem wipe_set {i : Nat} {x : Option V} : ∀ {vs : List Nat}, i ∈ vs → wipe (σ.set i x) vs = wipe σ vs
  | v :: vs, h => by
    unfold wipe
    by_cases e : i ∈ vs
    · rw [wipe_set e]
    · have ev : i = v := by
        rcases List.mem_cons.mp h with h | h
        · exact h
        · exact absurd h e
      subst ev
      apply List.ext_getElem?
      intro j
      rw [List.getElem?_set, List.getElem?_set, wipe_length, wipe_length, List.length_set]
      by_cases e2 : i = j
      · rw [if_pos e2, if_pos e2]
      · rw [if_neg e2, if_neg e2]
        clear h e
        induction vs with
        | nil => unfold wipe; rw [List.getElem?_set_ne e2]
        | cons w ws ih =>
          unfold wipe
          rw [List.getElem?_set, List.getElem?_set, wipe_length, wipe_length, List.length_set, ih]
theorem dg_name {i : Nat} {x : Str} (hN : X.N.Nodup) (hi : X.N[i]? = some x) (hx : Loc X.env.scope x) (hf : X.fn x = true ∨ X.env.scope.names.lookup x = some .local := by first | exact .inl rfl | exact .inr rfl | assumption) : PG X (.Name x pos) (upG E [i] (dName i)) :=
  ⟨fun pins s σ H v u Q I r h => by
    obtain ⟨P, Γ, d, Qd, R, hi', hT, hQ⟩ := h
    exact (pg_name hN hi hx hf).run pins s σ H v u Q I r (hQ _ _ _ _ (.set i (.d d) .refl) (R.setD hi') (fun vs hv => wipe_set (hv i (List.mem_singleton.mpr rfl))) hT)⟩
theorem dgs_nil : PGs X [] (upGs E [] dGNil) := ⟨fun pins s σ H vs us Q I r h => by
  obtain ⟨P, Γ, ds, Qd, R, hi', ⟨rfl, hT⟩, hQ⟩ := h
  exact pgs_nil.run pins s σ H vs us Q I r ⟨hi'.nil_inv, hQ _ _ _ _ .refl R (fun _ _ => rfl) hT⟩⟩
theorem dgs_cons {es : List Expr} {ts us : List Nat} {g : DG} {h : DGs} (h1 : PG X e (upG E ts g)) (h2 : PGs X es (upGs E us h))
    (hs : (assignEach (e :: es) X.env).map (·.2) = assign e X.env :: (assignEach es X.env).map (·.2) := by rfl) : PGs X (e :: es) (upGs E (ts ++ us) (dGCons g h)) := ⟨fun pins s σ H vs us' Q I r hh => by
  obtain ⟨P, Γ, ds, Qd, R, hi', hT, hQ⟩ := hh
  cases ds with
  | nil => exact (show False from hT).elim
  | cons d ds =>
    obtain ⟨x, rr, rfl, i1, i2⟩ := hi'.cons_inv
    refine (pgs_cons h1 h2 hs).run pins s σ H _ us' Q I r ⟨x, rr, rfl, P, Γ, d, _, R, i1, hT, fun σ1 Γ1 P1 H1 g1 R1 w1 q1 => ?_⟩
    exact ⟨P1, Γ1, ds, _, R1, i2.mono g1.p, q1, fun σ2 Γ2 P2 H2 g2 R2 w2 q2 => hQ _ _ _ _ (g1.trans g2.re) R2 (fun vs hv => (w2 vs fun i hi => hv i (List.mem_append_right _ hi)).trans (w1 vs fun i hi => hv i (List.mem_append_left _ hi))) q2⟩⟩
theorem dg_tup {es : List Expr} {k : Nat} {ts : List Nat} {g : DGs} {n : Nat} (hK : X.K = E.K) (hc : X.calm = true) (h : PGs X es (upGs E ts g))
    (hn : (assignEach es X.env).length = n := by rfl) (hst : (assignEach es X.env).findIdx? (·.1) = none := by rfl) : PG X (.Tuple es k pos) (upG E ts (dGTup n g)) := ⟨fun pins s σ H v u Q I r hh => by
  obtain ⟨P, Γ, d, Qd, R, hi', hT, hQ⟩ := hh
  refine (pg_tup hc h hn hst).run pins s σ H v u Q I r ?_
  unfold dGTup at hT
  split at hT
  · obtain ⟨a, xs, rfl, ha, hx⟩ := hi'.tup_inv
    exact ⟨a, xs, rfl, by rw [hK]; exact sqT_mono R.sub ha, by rw [hx.length]; exact hT.1, P, Γ, _, _, R, hx, hT.2, hQ⟩
  · exact hT.elim⟩
@[simp] def dAsg (te : DE) (g : DG) : DST := fun De Γ => te De.ex Γ fun d Γ1 => g d Γ1 De.nx
theorem d_asg {tg : Expr} {ts : List Nat} {g : DG} (he : PE X e (up E W te)) (hg : PG X tg (upG E ts g)) (hs : swapsWithSole [tg] e pos.line X.env = pure false := by rfl) (hw : swappedStores [tg] e X.env = pure none := by rfl)
    (h1 : (assignEach [tg] X.env).map (·.2) = [assign tg X.env] := by rfl) : PS X (.Assign [tg] e pos) (upS E W (dAsg te g)) := impS (ps_asg he hg hs hw h1) fun D σ H h => by
  obtain ⟨P, Γ, De, R, hT, L⟩ := h
  refine ⟨P, Γ, _, _, R, hT, L.ex σ, fun d Γ1 v P1 H1 g1 R1 i1 h1 => ?_⟩
  exact ⟨P1, Γ1, d, _, R1, i1, h1, fun σ' Γ' P2 H2 g2 R' _ q => L.nx _ _ _ _ (g1.p.trans g2.p) R' q⟩
@[simp] def dSet (i : Nat) (te : DE) : DST := fun De Γ => te De.ex Γ fun d Γ1 => De.nx (Γ1.set i (.d d))
theorem d_set (i : Nat) {x : Str} {pos' : Pos} (hN : X.N.Nodup) (hi : X.N[i]? = some x) (hx : Loc X.env.scope x) (he : PE X e (up E W te)) (hs : swapsWith e (some (.Name x pos')) pos.line X.env = pure false := by rfl) (hf : X.fn x = true ∨ X.env.scope.names.lookup x = some .local := by first | exact .inl rfl | exact .inr rfl | assumption) :
    PS X (.Assign [.Name x pos'] e pos) (upS E W (dSet i te)) := impS (ps_set hN hi hx he hs hf) fun D σ H h => by
  obtain ⟨P, Γ, De, R, hT, L⟩ := h
  refine ⟨P, Γ, _, _, R, hT, L.ex σ, fun d Γ1 v P1 H1 g1 R1 i1 h1 => ?_⟩
  exact L.nx _ _ _ _ g1.p (R1.setD i1) h1
@[simp] def dPar (i j : Nat) (ta : DA) : DST := fun De Γ => ta De.ex Γ fun ds Γ1 => match ds with
  | [d, d'] => De.nx ((Γ1.set i (.d d)).set j (.d d'))
  | _ => False
theorem d_par (i j : Nat) {x y : Str} {a b : Expr} {tas : DA} {px py pt : Pos} {kt k2 pt2} (hc : X.calm = true) (hN : X.N.Nodup) (hi : X.N[i]? = some x) (hj : X.N[j]? = some y) (hij : i ≠ j)
    (hx : X.env.scope.names.lookup x = some .local) (hy : X.env.scope.names.lookup y = some .local) (ha : PA X [a, b] (upA E W tas))
    (hw : swappedStores [.Tuple [.Name x px, .Name y py] kt pt] (.Tuple [a, b] k2 pt2) X.env = pure (some [x, y]) := by rfl)
    (hs : swapsWithSole [.Tuple [.Name x px, .Name y py] kt pt] (.Tuple [a, b] k2 pt2) pos.line X.env = pure false := by rfl) :
    PS X (.Assign [.Tuple [.Name x px, .Name y py] kt pt] (.Tuple [a, b] k2 pt2) pos) (upS E W (dPar i j tas)) := impS (ps_par hc hN hi hj hij hx hy ha hw hs) fun D σ H h => by
  obtain ⟨P, Γ, De, R, hT, L⟩ := h
  refine ⟨P, Γ, _, _, R, hT, L.ex σ, fun ds Γ1 vs P1 H1 g1 R1 i1 h1 => ?_⟩
  split at h1
  · obtain ⟨v, w, rfl, iv, iw⟩ := i1.two
    exact ⟨v, w, rfl, L.nx _ _ _ _ g1.p ((R1.setD iv).setD iw) h1⟩
  · exact h1.elim

theorem Back.same {K : PySem.W.Frag} {cl : Nat → Addr} {T : List NdefX.NTab} {m : Mm} (s : Same P H) (nt : NoT P) (tb : NdefX.TabsN T H) (so : StOk K cl P H m) : Back K cl T m P H m P H :=
  ⟨Same.refl _, s, nt, tb, fun a o z => .inl ⟨o, z⟩, fun _ _ z _ _ => z, fun _ o z => ⟨o, z⟩, fun _ b z => .inl ⟨b, z⟩, so⟩
def ItD (K : PySem.W.Frag) (cl : Nat → Addr) (T : List NdefX.NTab) (J : It) (P : Hp) (ds : List D) : Prop := ∀ m Pc H, Same P Pc → Same Pc H → NoT Pc → NdefX.TabsN T H → StOk K cl Pc H m → (∀ i, ds.length ≤ i → J.stop i H) ∧
  ∀ (i : Nat) d, ds[i]? = some d → J.go i H ∧ ∀ x H', J.yld i H x H' → ∃ P', Back K cl T m Pc H m P' H' ∧ Is K cl P' d x
abbrev DI := XC → DS → (List D → DS → Prop) → Prop
def upI (E : DC) (W : WX) (T : DI) : TI := fun σ H R => ∃ P Γ x Qd, Rep E P H σ Γ ∧ T x Γ Qd ∧ XL E W σ x ∧
  ∀ ds Γ' P' H' J, Gr σ Γ P H Γ' P' H' → Rep E P' H' σ Γ' → ItD E.K E.cl E.T J P' ds → Qd ds Γ' → R J H'
@[simp] def dForL (g : DG) (tb : DST) (De : DEnds) : List D → DS → Prop
  | [], Γ => De.nx Γ
  | d :: ds, Γ => g d Γ fun Γ1 => tb { De with nx := dForL g tb De ds, ct := dForL g tb De ds, bk := De.nx } Γ1
@[simp] def dFor (ti : DI) (g : DG) (tb : DST) : DST := fun De Γ => ti De.ex Γ fun ds Γ1 => dForL g tb De ds Γ1
theorem d_for {tg iter : Expr} {body : List Stmt} {ti : DI} {ts : List Nat} {g : DG} {tb : DST} (hp : PassesOwn (model X.prog X.w) X.A X.env X.xe) (hc : X.calm = true) (hi : PI X tg iter (upI E W ti)) (hg : PG X tg (upG E ts g)) (hb : PSs X body (upS E W tb))
    (hs : ∀ x, foldedSetIterable iter X.env x = pure x := by intro _; rfl) : PS X (.For tg iter body [] pos) (upS E W (dFor ti g tb)) := impS (ps_for hp hc hi hg hb hs) fun D σ H h => by
  obtain ⟨P, Γ, De, R, hT, L⟩ := h
  refine ⟨P, Γ, _, _, R, hT, L.ex σ, fun ds Γ1 P1 H1 J g1 R1 it h1 => ?_⟩
  refine ⟨fun i m σ H => ∃ P Γ, Same P1 P ∧ Rep E P H σ Γ ∧ dForL g tb De (ds.drop i) Γ ∧ m = ds.length - i, ⟨_, P1, Γ1, Same.refl _, R1, h1, rfl⟩, ?_⟩
  rintro i m σ2 H2 ⟨P2, Γ2, s2, R2, h2, rfl⟩
  obtain ⟨i1, i2⟩ := it Γ2.m P2 H2 s2 R2.sub R2.nt R2.tb R2.stok
  by_cases hlt : i < ds.length
  · obtain ⟨go, yl⟩ := i2 i _ (List.getElem?_eq_getElem hlt)
    rw [List.drop_eq_getElem_cons hlt] at h2
    refine .inr ⟨go, fun σ' H' => ∃ P Γ, Same P1 P ∧ Rep E P H' σ' Γ ∧ dForL g tb De (ds.drop (i + 1)) Γ, fun σ' H' ⟨P, Γ, a, b, c⟩ => ⟨ds.length - (i + 1), by omega, P, Γ, a, b, c, rfl⟩, fun x H' y => ?_⟩
    obtain ⟨P3, bk, ix⟩ := yl x H' y
    refine ⟨P3, Γ2, _, _, R2.back bk, ix, h2, fun σ4 Γ4 P4 H4 g4 R4 _ q => ?_⟩
    have s4 := bk.p.trans g4.p
    refine ⟨P4, Γ4, _, R4, q, ⟨fun σ' Γ' P' H' s R' q => ⟨P', Γ', s2.trans (s4.trans s), R', q⟩, fun d v σ' Γ' P' H' s => L.rt d v σ' Γ' P' H' (g1.p.trans (s2.trans (s4.trans s))), fun σ' Γ' P' H' s => L.nx σ' Γ' P' H' (g1.p.trans (s2.trans (s4.trans s))), fun σ' Γ' P' H' s R' q => ⟨P', Γ', s2.trans (s4.trans s), R', q⟩, L.ex⟩⟩
  · have hle : ds.length ≤ i := by omega
    rw [List.drop_eq_nil_of_le hle] at h2
    exact .inl ⟨i1 i hle, L.nx _ _ _ _ (g1.p.trans s2) R2 h2⟩
def dWhile (c : DT) (tb : DST) : DST := fun De Γ => ∃ Wd : Nat → DS → Prop, (∃ m, Wd m Γ) ∧ ∀ m Γ, Wd m Γ → c De.ex Γ fun k Γ1 => if k = true then tb { De with nx := fun Γ' => ∃ m', m' < m ∧ Wd m' Γ', ct := fun Γ' => ∃ m', m' < m ∧ Wd m' Γ', bk := De.nx } Γ1 else De.nx Γ1
theorem d_while {c : Expr} {body : List Stmt} {tc : DT} {tb : DST} (hp : PassesOwn (model X.prog X.w) X.A X.env X.xe) (hc : PT X c (upT E W tc)) (hb : PSs X body (upS E W tb)) : PS X (.While c body [] pos) (upS E W (dWhile tc tb)) := impS (ps_while hp hc hb) fun D σ H h => by
  obtain ⟨P, Γ, De, R, ⟨Wd, ⟨m, w0⟩, turn⟩, L⟩ := h
  refine ⟨fun m σ H => ∃ P' Γ, Same P P' ∧ Rep E P' H σ Γ ∧ Wd m Γ, ⟨m, P, Γ, Same.refl _, R, w0⟩, ?_⟩
  rintro m σ1 H1 ⟨P1, Γ1, s1, R1, w1⟩
  refine ⟨P1, Γ1, _, _, R1, turn m Γ1 w1, L.ex σ1, fun k Γ2 P2 H2 g2 R2 h2 => ?_⟩
  cases k with
  | true =>
    rw [if_pos rfl]
    refine ⟨fun σ' H' => ∃ m', m' < m ∧ ∃ P' Γ, Same P P' ∧ Rep E P' H' σ' Γ ∧ Wd m' Γ, fun _ _ z => z, ?_⟩
    refine ⟨P2, Γ2, _, R2, h2, ⟨fun σ' Γ' P' H' s R' ⟨m', hm, q⟩ => ⟨m', hm, P', Γ', s1.trans (g2.p.trans s), R', q⟩, fun d v σ' Γ' P' H' s => L.rt d v σ' Γ' P' H' (s1.trans (g2.p.trans s)), fun σ' Γ' P' H' s => L.nx σ' Γ' P' H' (s1.trans (g2.p.trans s)), fun σ' Γ' P' H' s R' ⟨m', hm, q⟩ => ⟨m', hm, P', Γ', s1.trans (g2.p.trans s), R', q⟩, L.ex⟩⟩
  | false =>
    rw [if_neg Bool.false_ne_true]
    exact L.nx _ _ _ _ (s1.trans g2.p) R2 h2

@[simp] def dItL (te : DE) : DI := fun x Γ Q => te x Γ fun d Γ1 => match d with
  | .lst ds => Q ds Γ1
  | .kst ds => Q ds Γ1
  | _ => False
variable {tg iter : Expr}
theorem itl_ok' {a : Addr} {xs : List V} {ds : List D} (h : SqL E.K P a xs) (hx : IsA E.K E.cl P ds xs) : ItD E.K E.cl E.T (Itl E.K a) P ds := fun m Pc H s1 s2 nt tb so =>
  ⟨fun i hi => ⟨xs, (s1.trans s2).seq h, by rw [hx.length]; exact hi⟩, fun i d hd => by
    obtain ⟨v, e1, e2⟩ := hx.get hd
    refine ⟨⟨xs, v, (s1.trans s2).seq h, e1⟩, fun x H' y => ?_⟩
    obtain ⟨rfl, y⟩ := y
    have := y xs ((s1.trans s2).seq h)
    rw [e1] at this; cases this
    exact ⟨Pc, .same s2 nt tb so, e2.mono s1⟩⟩
theorem di_list (hK : X.K = E.K) (he : PE X iter (up E W te)) : PI X tg iter (upI E W (dItL te)) := ⟨fun pins s σ H R I h => by
  refine (pi_list he).run pins s σ H R I ?_
  obtain ⟨P, Γ, x, Qd, Rp, hT, hx, hQ⟩ := h
  refine ⟨P, Γ, x, _, Rp, hT, hx, fun d Γ1 v P1 H1 g1 R1 i1 h1 => ?_⟩
  rw [hK]
  split at h1
  · obtain ⟨a, xs, rfl, ha, hx⟩ := i1.lst_inv
    exact ⟨a, rfl, ⟨xs, .of (R1.sub _ _ ha)⟩, hQ _ _ _ _ _ g1 R1 (itl_ok' (.of ha) hx) h1⟩
  · obtain ⟨a, xs, rfl, ha, hx⟩ := i1.kst_inv
    exact ⟨a, rfl, ⟨xs, R1.sub.seq ha⟩, hQ _ _ _ _ _ g1 R1 (itl_ok' ha hx) h1⟩
  · exact h1.elim⟩
@[simp] def dItT (te : DE) : DI := fun x Γ Q => te x Γ fun d Γ1 => match d with
  | .tup ds => Q ds Γ1
  | _ => False
theorem itt_ok {a : Addr} {xs : List V} {ds : List D} (h : SqT E.K P a xs) (hx : IsA E.K E.cl P ds xs) : ItD E.K E.cl E.T (Itt E.K a) P ds := fun m Pc H s1 s2 nt tb so =>
  ⟨fun i hi => ⟨xs, sqT_mono (s1.trans s2) h, by rw [hx.length]; exact hi⟩, fun i d hd => by
    obtain ⟨v, e1, e2⟩ := hx.get hd
    refine ⟨⟨xs, v, sqT_mono (s1.trans s2) h, e1⟩, fun x H' y => ?_⟩
    obtain ⟨rfl, y⟩ := y
    have := y xs (sqT_mono (s1.trans s2) h)
    rw [e1] at this; cases this
    exact ⟨Pc, .same s2 nt tb so, e2.mono s1⟩⟩
theorem di_tup (hK : X.K = E.K) (he : PE X iter (up E W te)) : PI X tg iter (upI E W (dItT te)) := ⟨fun pins s σ H R I h => by
  refine (pi_tup he).run pins s σ H R I ?_
  obtain ⟨P, Γ, x, Qd, Rp, hT, hx, hQ⟩ := h
  refine ⟨P, Γ, x, _, Rp, hT, hx, fun d Γ1 v P1 H1 g1 R1 i1 h1 => ?_⟩
  rw [hK]
  split at h1
  · obtain ⟨a, xs, rfl, ha, hx⟩ := i1.tup_inv
    exact ⟨a, rfl, ⟨xs, sqT_mono R1.sub ha⟩, hQ _ _ _ _ _ g1 R1 (itt_ok ha hx) h1⟩
  · exact h1.elim⟩
def rngD (lo : Int) (n : Nat) : List D := (List.range n).map fun (i : Nat) => .v (.int (lo + i))
theorem itr_ok {lo : Int} {n : Nat} : ItD E.K E.cl E.T (Itr lo n) P (rngD lo n) := fun m Pc H s1 s2 nt tb so => by
  have hl : (rngD lo n).length = n := by unfold rngD; simp
  refine ⟨fun i hi => by rw [hl] at hi; exact hi, fun i d hd => ?_⟩
  have hi : i < n := by
    have := (List.getElem?_eq_some_iff.mp hd).1
    omega
  have e : d = .v (.int (lo + i)) := by
    unfold rngD at hd
    rw [List.getElem?_map, List.getElem?_range hi] at hd
    exact (Option.some.inj hd).symm
  refine ⟨hi, fun x H' y => ?_⟩
  obtain ⟨rfl, rfl⟩ := y
  rw [e]
  exact ⟨Pc, .same s2 nt tb so, .v⟩
@[simp] def dItR1 (ta : DA) : DI := fun x Γ Q => ta x Γ fun ds Γ1 => match ds with
  | [.v (.int j)] => -(2 ^ 62) ≤ j ∧ j < 2 ^ 62 ∧ Q (rngD 0 j.toNat) Γ1
  | _ => False
@[simp] def dItR2 (ta : DA) : DI := fun x Γ Q => ta x Γ fun ds Γ1 => match ds with
  | [.v (.int i), .v (.int j)] => (-(2 ^ 62) ≤ i ∧ i < 2 ^ 62 ∧ -(2 ^ 62) ≤ j ∧ j < 2 ^ 62) ∧ Q (rngD i (j - i).toNat) Γ1
  | _ => False
variable {tas : DA} {a b : Expr} {p : Pos}
theorem di_range1 (hg : Gl X "range") (hm : X.mg "range" = none) (ha : PA X [a] (upA E W tas)) (hs : starEach [a] X.env = [(false, eval a X.env)] := by rfl) : PI X tg (.Call (.Name "range" p) [a] [] pos) (upI E W (dItR1 tas)) := ⟨fun pins s σ H R I h => by
  refine (pi_range1 hg hm ha hs).run pins s σ H R I ?_
  obtain ⟨P, Γ, x, Qd, Rp, hT, hx, hQ⟩ := h
  refine ⟨P, Γ, x, _, Rp, hT, hx, fun ds Γ1 vs P1 H1 g1 R1 i1 h1 => ?_⟩
  split at h1
  · obtain ⟨v, rfl, iv⟩ := i1.one
    rw [iv.v_inv]
    exact ⟨_, rfl, h1.1, h1.2.1, hQ _ _ _ _ _ g1 R1 itr_ok h1.2.2⟩
  · exact h1.elim⟩
theorem di_range2 (hg : Gl X "range") (hm : X.mg "range" = none) (ha : PA X [a, b] (upA E W tas)) (hs : starEach [a, b] X.env = [(false, eval a X.env), (false, eval b X.env)] := by rfl) (hs2 : starEach [b] X.env = [(false, eval b X.env)] := by rfl) :
    PI X tg (.Call (.Name "range" p) [a, b] [] pos) (upI E W (dItR2 tas)) := ⟨fun pins s σ H R I h => by
  refine (pi_range2 hg hm ha hs hs2).run pins s σ H R I ?_
  obtain ⟨P, Γ, x, Qd, Rp, hT, hx, hQ⟩ := h
  refine ⟨P, Γ, x, _, Rp, hT, hx, fun ds Γ1 vs P1 H1 g1 R1 i1 h1 => ?_⟩
  split at h1
  · obtain ⟨v, w, rfl, iv, iw⟩ := i1.two
    rw [iv.v_inv, iw.v_inv]
    exact ⟨_, _, rfl, h1.1, hQ _ _ _ _ _ g1 R1 itr_ok h1.2⟩
  · exact h1.elim⟩
end
end DL

namespace DL
open PySem L2

section
variable {E : DC} {W : WX} {P P' H H' : Hp} {σ σ' : L2.St} {Γ Γ' : DS} {X : Cx}
def wipeS (Γ : List Sl) : List Nat → List Sl
  | [] => Γ
  | v :: vs => (wipeS Γ vs).set v .no
@[simp] def wipeD (Γ : DS) (vs : List Nat) : DS := ⟨wipeS Γ.s vs, Γ.m⟩
@[simp] theorem wipeS_nil {Γ : List Sl} : wipeS Γ [] = Γ := rfl
@[simp] theorem wipeS_cons {Γ : List Sl} {v : Nat} {vs : List Nat} : wipeS Γ (v :: vs) = (wipeS Γ vs).set v .no := rfl
theorem wipeS_length {Γ : List Sl} : ∀ {vs : List Nat}, (wipeS Γ vs).length = Γ.length
  | [] => rfl
  | v :: vs => by unfold wipeS; rw [List.length_set, wipeS_length]
theorem wipeS_other {Γ : List Sl} {i : Nat} : ∀ {vs : List Nat}, i ∉ vs → (wipeS Γ vs)[i]? = Γ[i]?
  | [], _ => rfl
  | v :: vs, h => by
    unfold wipeS
    rw [List.getElem?_set_ne (fun e => h (by rw [e]; exact List.mem_cons_self)), wipeS_other (fun z => h (List.mem_cons_of_mem _ z))]
theorem wipe_other {i : Nat} : ∀ {vs : List Nat}, i ∉ vs → (wipe σ vs)[i]? = σ[i]?
  | [], _ => rfl
  | v :: vs, h => by
    unfold wipe
    rw [List.getElem?_set_ne (fun e => h (by rw [e]; exact List.mem_cons_self)), wipe_other (fun z => h (List.mem_cons_of_mem _ z))]
theorem wipeS_in {Γ : List Sl} {i : Nat} {s : Sl} : ∀ {vs : List Nat}, i ∈ vs → (wipeS Γ vs)[i]? = some s → s = .no
  | v :: vs, h, e => by
    unfold wipeS at e
    by_cases ev : v = i
    · subst ev
      rw [List.getElem?_set] at e
      simp only [if_true] at e
      split at e
      · exact (Option.some.inj e).symm
      · cases e
    · rw [List.getElem?_set_ne ev] at e
      refine wipeS_in ?_ e
      rcases List.mem_cons.mp h with z | z
      · exact absurd z.symm ev
      · exact z
theorem Rep.wiped (R : Rep E P H σ Γ) (vs : List Nat) : Rep E P H (wipe σ vs) (wipeD Γ vs) where
  sub := R.sub
  nt := R.nt
  tb := R.tb
  p0 := R.p0
  h0 := R.h0
  dm := R.dm
  new := R.new
  len := by rw [wipe_length, wipeD, wipeS_length]; exact R.len
  sl := fun i s o e1 e2 => by
    simp only [wipeD] at e1
    by_cases hi : i ∈ vs
    · rw [wipeS_in hi e1]; trivial
    · rw [wipeS_other hi] at e1; rw [wipe_other hi] at e2; exact R.sl i s o e1 e2
  st := R.st
theorem Rep.unwipe {σ2 : L2.St} {Γ2 : DS} (R : Rep E P H σ Γ) (R2 : Rep E P' H' σ2 Γ2) (s : Same P P') : Rep E P' H' σ ⟨Γ.s, Γ2.m⟩ :=
  ⟨R2.sub, R2.nt, R2.tb, R2.p0, R2.h0, R2.dm, R2.new, R.len, fun i t o e1 e2 => (R.sl i t o e1 e2).mono s, R2.st⟩
@[simp] def dYes : DT := fun x Γ Q => Q true Γ
theorem dts_nil : PTs X [] (upT E W dYes) := ⟨fun pins s σ H Q I h => by
  obtain ⟨P, Γ, x, Qd, R, hT, hx, hQ⟩ := h
  exact pts_nil.run pins s σ H Q I (hQ _ _ _ _ .refl R hT)⟩
theorem dts_one {c : Expr} {t : DT} (h : PT X c (upT E W t)) : PTs X [c] (upT E W t) := pts_one h
@[simp] def dLcL (g : DG) (tt : DT) (te : DE) (vs : List Nat) (Q : List D → DS → Prop) : List D → List D → DS → Prop
  | [], acc, Γ => Q acc Γ
  | d :: ds, acc, Γ => g d (wipeD Γ vs) fun Γ2 => tt (fun _ _ => False) Γ2 fun k Γ3 => if k = true then te (fun _ _ => False) Γ3 fun y Γ4 => acc.length < sizeLine ∧ dLcL g tt te vs Q ds (acc ++ [y]) ⟨Γ.s, Γ4.m⟩ else dLcL g tt te vs Q ds acc ⟨Γ.s, Γ3.m⟩
@[simp] def dLc (ti : DI) (g : DG) (tt : DT) (te : DE) (vs : List Nat) : DF := fun x Γ Q => ti x Γ fun ds Γ1 => dLcL g tt te vs Q ds [] Γ1
theorem Gr.apart (g : Gr σ Γ P H Γ' P' H') {D : Addr} {o : HO} (h : H D = some o) (ho : ∀ ps, o ≠ .tbl ps) (hp : P D = none) (hm : Γ.m D = none) : H' D = some o ∧ P' D = none ∧ Γ'.m D = none := by
  refine ⟨g.k D o h ho hm, ?_, ?_⟩
  · cases z : P' D with
    | none => rfl
    | some u =>
      rcases g.n D u z with ⟨_, e⟩ | e | ⟨_, e⟩
      · rw [hp] at e; cases e
      · rw [h] at e; cases e
      · rw [hm] at e; cases e
  · cases z : Γ'.m D with
    | none => rfl
    | some u =>
      rcases g.o D u z with ⟨_, e⟩ | e
      · rw [hm] at e; cases e
      · rw [h] at e; cases e
theorem Rep.poke (R : Rep E P H σ Γ) {a : Addr} {xs ys : List V} (ha : H a = some (.lst xs)) (h : P a = none) (h0 : E.H0 a = none) (no : Γ.m a = none) : Rep E P (upd H a (.lst ys)) σ Γ := by
  have R2 := (R.own_put (b := .lst ([] : List D)) (H' := upd H a (.lst [])) h (fun c hc => upd_ne hc) (fun ps => by rw [ha]; nofun) (fun ps => by rw [ha]; nofun) ⟨[], upd_same, .nil⟩ (.inl h0))
  have hf : ∀ b, b ≠ a → upd H a (.lst ys) b = H b := fun b hb => upd_ne hb
  refine ⟨fun b u q => ?_, R.nt, fun p hp => ?_, R.p0, fun b u q t n => ?_, fun b u q => ?_, R.new, R.len, R.sl, fun b o e => ?_⟩
  · rw [hf b fun z => by subst z; rw [h] at q; cases q]; exact R.sub b u q
  · obtain ⟨ps, h1, h2, h3⟩ := R.tb p hp
    refine ⟨ps, by rw [hf _ fun z => by rw [z, ha] at h1; cases h1]; exact h1, h2, fun pos cv hc => ?_⟩
    obtain ⟨c, e2, e3⟩ := h3 pos cv hc
    exact ⟨c, e2, by rw [hf _ fun z => by rw [z, ha] at e3; cases e3]; exact e3⟩
  · rw [hf b fun z => by subst z; rw [h0] at q; cases q]; exact R.h0 b u q t n
  · by_cases z : b = a
    · subst z; exact ⟨_, upd_same⟩
    · rw [hf b z]; exact R.dm b u q
  · obtain ⟨h1, h2, h3⟩ := R.st b o e
    have z : b ≠ a := fun z => by subst z; rw [no] at e; cases e
    exact ⟨h1, h2.move (Same.refl P) fun o x _ => by rw [hf b z]; exact x, h3⟩
theorem wipe_wipe (vs : List Nat) : wipe (wipe σ vs) vs = wipe σ vs := by
  apply List.ext_getElem?
  intro j
  by_cases hj : j ∈ vs
  · have l1 : (wipe (wipe σ vs) vs).length = σ.length := by rw [wipe_length, wipe_length]
    have l2 : (wipe σ vs).length = σ.length := wipe_length _ _
    cases e1 : (wipe (wipe σ vs) vs)[j]? with
    | none =>
      have := List.getElem?_eq_none_iff.mp e1
      rw [List.getElem?_eq_none (by omega)]
    | some o =>
      cases o with
      | some z => exact absurd hj (wipe_some e1).2
      | none =>
        have hl := (List.getElem?_eq_some_iff.mp e1).1
        cases e2 : (wipe σ vs)[j]? with
        | none => have := List.getElem?_eq_none_iff.mp e2; omega
        | some o2 =>
          cases o2 with
          | none => rfl
          | some z => exact absurd hj (wipe_some e2).2
  · rw [wipe_other hj]
theorem lc_go {ti : DI} {ts : List Nat} {g : DG} {tt : DT} {te : DE} {vs : List Nat} {Q : VK} (hts : ∀ i ∈ ts, i ∈ vs)
    (h : upF E W (dLc ti g tt te vs) σ H Q) : tLc (upI E W ti) (upG E ts g) (upT E (fun _ _ _ _ => False) tt) (up E (fun _ _ _ _ => False) te) vs σ H Q := by
  obtain ⟨P, Γ, x, Qd, R, hT, hx, hQ⟩ := h
  refine ⟨P, Γ, x, _, R, hT, hx, fun ds Γ1 P1 H1 J g1 R1 it h1 => ?_⟩
  intro D hD
  have zD : E.H0 D = none := R1.h0none hD
  have XF : ∀ σ', XL E (fun _ _ _ _ => False) σ' (fun _ _ => False) := fun σ' e Γ' P' H' cls d _ _ z => z
  refine ⟨fun i m H2 => m = ds.length - i ∧ ∃ P2 Γ2 acc vacc, Gr σ Γ1 P1 H1 Γ2 P2 H2 ∧ Rep E P2 H2 σ Γ2 ∧ P2 D = none ∧ Γ2.m D = none ∧ H2 D = some (.lst vacc) ∧ IsA E.K E.cl P2 acc vacc ∧ dLcL g tt te vs Qd (ds.drop i) acc Γ2,
    ⟨_, rfl, P1, Γ1, [], [], Gr.fresh _ hD, R1.fresh _ hD, R1.pnone hD, R1.mnone hD, upd_same, .nil, h1⟩, ?_⟩
  rintro i m H2 ⟨rfl, P2, Γ2, acc, vacc, g2, R2, pD2, mD2, hD2, ia2, h2⟩
  obtain ⟨i1, i2⟩ := it Γ2.m P2 H2 g2.p R2.sub R2.nt R2.tb R2.stok
  by_cases hlt : i < ds.length
  · obtain ⟨go, yl⟩ := i2 i _ (List.getElem?_eq_getElem hlt)
    rw [List.drop_eq_getElem_cons hlt] at h2
    refine .inr ⟨go, fun H' => ∃ P2 Γ2 acc vacc, Gr σ Γ1 P1 H1 Γ2 P2 H' ∧ Rep E P2 H' σ Γ2 ∧ P2 D = none ∧ Γ2.m D = none ∧ H' D = some (.lst vacc) ∧ IsA E.K E.cl P2 acc vacc ∧ dLcL g tt te vs Qd (ds.drop (i + 1)) acc Γ2,
      fun H' z => ⟨_, by omega, rfl, z⟩, fun y H3 hy => ?_⟩
    obtain ⟨P3, bk, iy⟩ := yl y H3 hy
    have g3 : Gr σ Γ2 P2 H2 Γ2 P3 H3 := .back bk
    obtain ⟨hD3, pD3, mD3⟩ := g3.apart hD2 (fun ps => nofun) pD2 mD2
    have R3 : Rep E P3 H3 (wipe σ vs) (wipeD Γ2 vs) := (R2.back bk).wiped vs
    refine ⟨P3, wipeD Γ2 vs, _, _, R3, iy, h2, fun σ4 Γ4 P4 H4 g4 R4 w4 q4 => ?_⟩
    have ww4 : wipe σ4 vs = wipe σ vs := (w4 vs hts).trans (wipe_wipe vs)
    obtain ⟨hD4, pD4, mD4⟩ := g4.apart hD3 (fun ps => nofun) pD3 mD3
    refine ⟨ww4, P4, Γ4, _, _, R4, q4, XF _, fun k Γ5 P5 H5 g5 R5 q5 => ?_⟩
    obtain ⟨hD5, pD5, mD5⟩ := g5.apart hD4 (fun ps => nofun) pD4 mD4
    have G5 : Gr σ Γ2 P2 H2 ⟨Γ2.s, Γ5.m⟩ P5 H5 := g3.trans (Gr.re (σ := σ) (Γ := ⟨Γ2.s, Γ2.m⟩) (Γ' := ⟨Γ2.s, Γ5.m⟩) (g4.re.trans g5 |> fun z => ⟨z.p, z.n, z.k, z.dm, z.o⟩))
    cases k with
    | false =>
      rw [if_neg Bool.false_ne_true] at q5 ⊢
      exact ⟨P5, _, acc, vacc, g2.trans G5, R2.unwipe R5 G5.p, pD5, mD5, hD5, ia2.mono G5.p, q5⟩
    | true =>
      rw [if_pos rfl] at q5 ⊢
      refine ⟨P5, Γ5, _, _, R5, q5, XF _, fun yd Γ6 yv P6 H6 g6 R6 iy6 q6 => ?_⟩
      obtain ⟨hl, q6⟩ := q6
      obtain ⟨hD6, pD6, mD6⟩ := g6.apart hD5 (fun ps => nofun) pD5 mD5
      have G6 : Gr σ Γ2 P2 H2 ⟨Γ2.s, Γ6.m⟩ P6 H6 := G5.trans ⟨g6.p, g6.n, g6.k, g6.dm, g6.o⟩
      have R7 := R2.unwipe R6 G6.p
      refine ⟨vacc, hD6, by rw [ia2.length]; exact hl, P6, _, acc ++ [yd], vacc ++ [yv], ?_, R7.poke hD6 pD6 zD mD6, pD6, mD6, upd_same, (ia2.mono G6.p).append (.cons iy6 .nil), q6⟩
      have G := g2.trans G6
      refine ⟨G.p, G.n, fun a o q t no => ?_, fun a o q => ?_, G.o⟩
      · rw [upd_ne fun z => by subst z; rw [hD] at q; cases q]
        exact G.k a o q t no
      · rw [upd_ne fun z => by subst z; rw [hD] at q; cases q]
        exact G.dm a o q
  · have hle : ds.length ≤ i := by omega
    rw [List.drop_eq_nil_of_le hle] at h2
    refine .inl ⟨i1 i hle, ?_⟩
    exact hQ acc Γ2 D vacc P2 H2 (g1.trans g2) R2 pD2 mD2 (none_of_dm g1.dm hD) zD hD2 ia2 h2
theorem df_lc {elt tg iter : Expr} {ifs : List Expr} {scope : Scope} {own : List (Str × Nat)} {pos : Pos} {ti : DI} {ts : List Nat} {g : DG} {tt : DT} {te : DE} (hc : X.calm = true) (hN : X.N.Nodup) (hts : ∀ i ∈ ts, i ∈ own.map (·.2)) (hi : PI X tg iter (upI E W ti)) (ok : BlkOk X.N X.env.scope scope own)
    (hg : ∀ (s : Shared) (H : Hp) (C : Addr) (cl : List (Str × Addr)) (fp : List Addr), PG (X.blk s H scope (compEnvC scope cl C X.env) fp) tg (upG E ts g)) (ht : ∀ (s : Shared) (H : Hp) (C : Addr) (cl : List (Str × Addr)) (fp : List Addr), PTs (X.blk s H scope (compEnvC scope cl C X.env) fp) ifs (upT E (fun _ _ _ _ => False) tt))
    (he : ∀ (s : Shared) (H : Hp) (C : Addr) (cl : List (Str × Addr)) (fp : List Addr), PE (X.blk s H scope (compEnvC scope cl C X.env) fp) elt (up E (fun _ _ _ _ => False) te)) (hs : ∀ x, foldedSetIterable iter X.env x = pure x := by intro _; rfl) :
    PE X (.ListComp elt [⟨tg, iter, ifs, 0⟩] scope pos) (upF E W (dLc ti g tt te (own.map (·.2)))) := impE (pe_lc hc hN hi ok hg ht he hs) fun _ _ _ h => lc_go hts h
end
end DL

namespace DL
open PySem L2 PySem.Calls

section
variable {E : DC} {W : WX} {P P' H H' : Hp} {σ σ' : L2.St} {Γ Γ' : DS} {X : Cx}
@[simp] def dFmt (te : DE) : DE := fun x Γ Q => te x Γ fun d Γ1 => match d with
  | .v (.str y) => y.length ≤ sizeLine ∧ Q (.v (.str y)) Γ1
  | .v (.int i) => i.natAbs.log2 < 1920 ∧ Q (.v (.str (toString i))) Γ1
  | _ => False
variable {a b c e o : Expr} {es : List Expr} {ta tb tc te : DE} {pos p apos : Pos} {tas : DA}
theorem de_fmt (he : PE X e (up E W te)) : PE X (.FormattedValue e (-1) none pos) (up E W (dFmt te)) := impE (pe_fmt he) fun σ H Q h => by
  obtain ⟨P, Γ, x, Qd, R, hT, hx, hQ⟩ := h
  refine ⟨P, Γ, x, _, R, hT, hx, fun d Γ1 v P1 H1 g1 R1 i1 h1 => ?_⟩
  split at h1
  · exact .inl ⟨_, i1.v_inv, h1.1, hQ _ _ _ _ _ g1 R1 .v h1.2⟩
  · exact .inr ⟨_, i1.v_inv, h1.1, hQ _ _ _ _ _ g1 R1 .v h1.2⟩
  · exact h1.elim
inductive PJD (X : Cx) (E : DC) (W : WX) : List Expr → List DE → Prop where
  | nil : PJD X E W [] []
  | cons {e : Expr} {t : DE} {es : List Expr} {ts : List DE} (h : PE X e (up E W t)) (r : PJD X E W es ts) : PJD X E W (e :: es) (t :: ts)
theorem PJD.pj {es : List Expr} {ts : List DE} (h : PJD X E W es ts) : PJ X es (ts.map (up E W)) := by
  induction h with
  | nil => exact .nil
  | cons h _ ih => exact .cons h ih
@[simp] def dJs : List DE → Str → XC → DS → (Str → DS → Prop) → Prop
  | [], acc, _, Γ, Q => Q acc Γ
  | t :: ts, acc, x, Γ, Q => t x Γ fun d Γ1 => match d with
    | .v (.str y) => (acc ++ y).length ≤ sizeLine ∧ dJs ts (acc ++ y) x Γ1 Q
    | _ => False
@[simp] def dJoined (ts : List DE) : DE := fun x Γ Q => dJs ts Str.empty x Γ fun out Γ1 => Q (.v (.str out)) Γ1
theorem up_js {x : XC} (hx : XL E W σ x) : ∀ (ts : List DE) (acc : Str) (P H : Hp) (Γ : DS) (Qd : Str → DS → Prop) (Q : Str → Hp → Prop), Rep E P H σ Γ → dJs ts acc x Γ Qd →
    (∀ y Γ' P' H', Gr σ Γ P H Γ' P' H' → Rep E P' H' σ Γ' → Qd y Γ' → Q y H') → tJs (ts.map (up E W)) acc σ H Q
  | [], acc, P, H, Γ, Qd, Q, R, h, hQ => hQ _ _ _ _ .refl R h
  | t :: ts, acc, P, H, Γ, Qd, Q, R, h, hQ => by
    refine ⟨P, Γ, x, _, R, h, hx, fun d Γ1 v P1 H1 g1 R1 i1 h1 => ?_⟩
    split at h1
    · exact ⟨_, i1.v_inv, h1.1, up_js hx ts _ P1 H1 Γ1 Qd Q R1 h1.2 fun y Γ' P' H' g R' q => hQ _ _ _ _ (g1.trans g) R' q⟩
    · exact h1.elim
theorem de_joined {v1 v2 : Expr} {rest : List Expr} {ts : List DE} (h : PJD X E W (v1 :: v2 :: rest) ts) : PE X (.JoinedStr (v1 :: v2 :: rest) pos) (up E W (dJoined ts)) := impE (pe_joined h.pj) fun σ H Q h => by
  obtain ⟨P, Γ, x, Qd, R, hT, hx, hQ⟩ := h
  exact up_js hx ts _ P H Γ _ _ R hT fun y Γ' P' H' g R' q => hQ _ _ _ _ _ g R' .v q
theorem de_joined1 (he : PE X e (up E W te)) : PE X (.JoinedStr [e] pos) (up E W te) := pe_joined1 he
@[simp] def dSM (R : Str → List D → (D → Prop) → Prop) (ta : DE) (t : DA) : DE := fun x Γ Q => ta x Γ fun d Γ1 => match d with
  | .v (.str s) => t x Γ1 fun ds Γ2 => R s ds fun d => Q d Γ2
  | _ => False
def LkS (E : DC) (r : V → List V → Hp → VK → Prop) (R : Str → List D → (D → Prop) → Prop) : Prop := ∀ (P H : Hp) (σ : L2.St) (Γ : DS) (s : Str) (ds : List D) (vs : List V) (Q : VK) (Qd : D → Prop), Rep E P H σ Γ → IsA E.K E.cl P ds vs → R s ds Qd →
  (∀ d v P' H', Gr σ Γ P H Γ P' H' → Rep E P' H' σ Γ → Is E.K E.cl P' d v → Qd d → Q v H') → r (.str s) vs H Q
variable {id : String} {name : Str} {r : V → List V → Hp → VK → Prop} {R : Str → List D → (D → Prop) → Prop}
theorem de_sm (slot : Slot "str" name id) (hty : typeOf (.builtin id) = pure (.type "method_descriptor")) (hm : MtR X id r) (L : LkS E r R) (ho : PE X o (up E W ta)) (ha : PA X (e :: es) (upA E W tas))
    (hbase : attributeBase o name X.env (eval o X.env) = eval o X.env := by rfl)
    (hfew : ((backTo pos (starEach (e :: es) X.env)).all (fun x => !x.1) && (backToKw pos (keywordEach [] X.env)).all (fun x => x.1.isSome)
      && decide ((e :: es).length + ([] : List Keyword).length + (if ([] : List Keyword).isEmpty then 0 else 1) < 30)) = true := by rfl)
    (hline : (apos.endLine == pos.line) = true := by rfl) (hs : starEach (e :: es) X.env = (false, eval e X.env) :: starEach es X.env := by rfl) (hplain : (backTo pos (starEach es X.env)).any (·.1) = false := by rfl) :
    PE X (.Call (.Attribute o name apos) (e :: es) [] pos) (up E W (dSM R ta tas)) :=
  impE (pe_bm PySem.F.plainAttrs_str slot hty hm ho ha hbase hfew hline hs hplain) fun σ H Q h => by
    obtain ⟨P, Γ, x, Qd, Rp, hT, hx, hQ⟩ := h
    refine ⟨P, Γ, x, _, Rp, hT, hx, fun d Γ1 v P1 H1 g1 R1 i1 h1 => ?_⟩
    split at h1
    · rw [i1.v_inv]
      refine ⟨rfl, P1, Γ1, x, _, R1, h1, hx, fun ds Γ2 vs P2 H2 g2 R2 i2 h2 => ?_⟩
      exact L P2 H2 σ Γ2 _ ds vs Q _ R2 i2 h2 fun d v P3 H3 g3 R3 i3 h3 => hQ d Γ2 v P3 H3 (g1.trans (g2.trans g3)) R3 i3 h3
    · exact h1.elim
@[simp] def dJoin : Str → List D → (D → Prop) → Prop := fun s ds Q => match ds with
  | [.lst ds] => match strsD ds with
    | some ys => (ys.map (·.length)).sum + ys.length * s.length ≤ 16777216 ∧ Q (.v (.str (Txt.join s ys)))
    | none => False
  | [.tup ds] => match strsD ds with
    | some ys => (ys.map (·.length)).sum + ys.length * s.length ≤ 16777216 ∧ Q (.v (.str (Txt.join s ys)))
    | none => False
  | _ => False
theorem lk_join : LkS E (fun x xs H Q => ∃ a p, ∃ ys : List Str, x = .str a ∧ xs = [.ref p] ∧ (SqL E.K H p (ys.map V.str) ∨ SqT E.K H p (ys.map V.str)) ∧
    (ys.map (·.length)).sum + ys.length * a.length ≤ 16777216 ∧ Q (.str (Txt.join a ys)) H) dJoin := by
  intro P H σ Γ s ds vs Q Qd R i hr hQ
  unfold dJoin at hr
  split at hr
  · obtain ⟨x, rfl, i1⟩ := i.one
    obtain ⟨p, xs, rfl, hp, hx⟩ := i1.lst_inv
    split at hr
    · rename_i e
      rw [strsD_eq e] at hx
      obtain rfl := hx.atoms
      exact ⟨s, p, _, rfl, rfl, .inl (.of (R.sub _ _ hp)), hr.1, hQ _ _ P H .refl R .v hr.2⟩
    · exact hr.elim
  · obtain ⟨x, rfl, i1⟩ := i.one
    obtain ⟨p, xs, rfl, hp, hx⟩ := i1.tup_inv
    split at hr
    · rename_i e
      rw [strsD_eq e] at hx
      obtain rfl := hx.atoms
      exact ⟨s, p, _, rfl, rfl, .inr (sqT_mono R.sub hp), hr.1, hQ _ _ P H .refl R .v hr.2⟩
    · exact hr.elim
  · exact hr.elim
theorem mtJoin (hK : X.K = E.K) : MtR X "str.join" (fun x xs H Q => ∃ a p, ∃ ys : List Str, x = .str a ∧ xs = [.ref p] ∧ (SqL E.K H p (ys.map V.str) ∨ SqT E.K H p (ys.map V.str)) ∧
    (ys.map (·.length)).sum + ys.length * a.length ≤ 16777216 ∧ Q (.str (Txt.join a ys)) H) := by rw [← hK]; exact mt_join

theorem start_slots {K : PySem.W.Frag} {cl : Nat → Addr} {ds : List D} {vs : List V} (i : IsA K cl P ds vs) (N : List Str) (j : Nat) (t : Sl) (o : Option V)
    (e1 : (ds.map Sl.d ++ List.replicate (N.length - ds.length) Sl.no)[j]? = some t) (e2 : (L2.start N vs)[j]? = some o) : SlAt K cl P t o := by
  by_cases hj : j < ds.length
  · rw [List.getElem?_append_left (by simpa using hj)] at e1
    unfold L2.start at e2
    rw [List.getElem?_append_left (by simpa [i.length] using hj)] at e2
    rw [List.getElem?_map] at e1 e2
    cases hd : ds[j]? with
    | none => rw [hd] at e1; cases e1
    | some d =>
      rw [hd] at e1; cases e1
      obtain ⟨v, h1, h2⟩ := i.get hd
      rw [h1] at e2; cases e2
      exact ⟨v, rfl, h2⟩
  · have hl2 : (ds.map Sl.d).length ≤ j := by rw [List.length_map]; omega
    rw [List.getElem?_append_right hl2] at e1
    rw [List.getElem?_replicate] at e1
    split at e1
    · cases e1; trivial
    · cases e1
@[simp] def entryM (n : Nat) (ds : List D) (m : Mm) : DS := ⟨ds.map Sl.d ++ List.replicate (n - ds.length) .no, m⟩
theorem start_rep {K : PySem.W.Frag} {cl : Nat → Addr} {T : List NdefX.NTab} {ds : List D} {vs : List V} {m : Mm} (s : Same P H) (nt : NoT P) (tb : NdefX.TabsN T H) (so : StOk K cl P H m) (i : IsA K cl P ds vs) (N : List Str) (hl : vs.length ≤ N.length) :
    Rep ⟨K, cl, T, P, H, fun a => ∃ b, m a = some b⟩ P H (L2.start N vs) (entryM N.length ds m) where
  sub := s
  nt := nt
  tb := tb
  p0 := Same.refl P
  h0 := fun a o e _ _ => e
  dm := fun a o e => ⟨o, e⟩
  new := fun a o e => .inl ⟨o, e⟩
  len := by unfold L2.start entryM; simp only [List.length_append, List.length_map, List.length_replicate]; rw [i.length]
  sl := fun j t o e1 e2 => start_slots i N j t o e1 e2
  st := fun a b e => ⟨(so a b e).1, (so a b e).2, .inr ⟨b, e⟩⟩
theorem Rep.toBack {K : PySem.W.Frag} {cl : Nat → Addr} {T : List NdefX.NTab} {P0 H0 : Hp} {m : Mm} (R : Rep ⟨K, cl, T, P0, H0, fun a => ∃ b, m a = some b⟩ P H σ Γ) : Back K cl T m P0 H0 Γ.m P H :=
  ⟨R.p0, R.sub, R.nt, R.tb, R.new, fun a o e t n => R.h0 a o e t (by rintro ⟨b, z⟩; rw [n] at z; cases z), R.dm, fun a b e => (R.st a b e).2.2.elim .inr .inl, fun a b e => ⟨(R.st a b e).1, (R.st a b e).2.1⟩⟩
abbrev WD (Ex : XK) : WX := fun cls d _ H => Ex cls d H
@[simp] def entry (n : Nat) (ds : List D) : DS := ⟨ds.map Sl.d ++ List.replicate (n - ds.length) .no, m0⟩
@[simp] def conE (Q : D → Prop) (R : XD → Prop) : DEnds := { nx := fun _ => Q (.v .non), rt := fun d _ => Q d, ex := fun e _ => R e }
@[simp] def conM (Q : D → Mm → Prop) (R : XD → Mm → Prop) : DEnds := { nx := fun Γ => ∃ m', Le m' Γ.m ∧ Q (.v .non) m', rt := fun d Γ => ∃ m', Le m' Γ.m ∧ Q d m', ex := fun e Γ => ∃ m', Le m' Γ.m ∧ R e m' }
theorem Back.pure {K : PySem.W.Frag} {cl : Nat → Addr} {T : List NdefX.NTab} {m m2 : Mm} (bk : Back K cl T m0 P H m2 P' H') (so : StOk K cl P H m) : Back K cl T m P H m P' H' := (bk.frame so (.m0 m)).le fun a b q => by
  unfold ov
  split
  · rename_i b' e'
    rcases bk.o a _ e' with ⟨_, x⟩ | x
    · cases x
    · obtain ⟨o, x', _⟩ := (so a b q).2.at_; rw [x] at x'; cases x'
  · exact q
section
variable {P : Program} {w : World} {K : PySem.W.Frag} {mg : Str → Option Value} {base : Heap} {cl : Nat → Addr} {T : List NdefX.NTab} {x qual : Str} {st : Stmt} {f : Addr} {fd : FuncData} {N ps : List Str} {k : Nat}
theorem okM {C : ConM}
    (F : FunX K x qual st f fd) (S : FnScope N ps (defScope st)) (hps : ps.length ≤ N.length) (hl : ∀ ds m Q R, C ds m Q R → ds.length = ps.length)
    (hbody : ∀ (cdv : Value), fd.code = cdv → ∀ (A : Around) (outer : List Env) (s : Shared) (H : Hp) (E : DC) (Ex : XK), E.K = K → E.cl = cl → E.T = T → A.guards = some [] → Room k (A.deeper (PyProof.Rows.envOfC qual (defScope st) s.heap.objs.size f cdv)) →
      ∃ t, PSs (cxOf (L2.CX P w) P w K mg base N qual (defScope st) f cdv A outer s H Ex) (defBody st) (upS E (WD Ex) t) ∧ ∀ ds m Q R, C ds m Q R → t (conM Q R) (entryM N.length ds m)) : FnG P w K mg base (k + 1) f fd ps (spM K cl T C) := by
  refine FnG.body F S (fun vs H Q E h => ?_) (fun cdv hcdv A outer s H vs Q Ex hG hr h => ?_)
  · obtain ⟨P, m, ds, Qd, Xd, s, _, _, _, i, c, _⟩ := h
    rw [i.length]; exact hl _ _ _ _ c
  · obtain ⟨P', m, ds, Qd, Xd, s', nt, tb, so, i, c, h1, h2⟩ := h
    obtain ⟨t, ht, hq⟩ := hbody cdv hcdv A outer s H ⟨K, cl, T, P', H, fun a => ∃ b, m a = some b⟩ Ex rfl rfl rfl hG hr
    have hvl : vs.length ≤ N.length := by rw [i.length, hl _ _ _ _ c]; exact hps
    refine ⟨_, ht, P', _, _, start_rep s' nt tb so i N hvl, hq ds m Qd Xd c, ⟨fun σ' Γ' P2 H2 s2 R2 ⟨m', l, q⟩ => ?_, fun d v σ' Γ' P2 H2 s2 R2 i2 ⟨m', l, q⟩ => ?_, fun _ _ _ _ _ _ z => z.elim, fun _ _ _ _ _ _ z => z.elim, fun σ' e Γ' P2 H2 cls d R2 xi ⟨m', l, q⟩ => ?_⟩⟩
    · exact h1 _ _ _ _ _ (R2.toBack.le l) .v q
    · exact h1 _ _ _ _ _ (R2.toBack.le l) i2 q
    · exact h2 _ _ _ _ _ _ (R2.toBack.le l) xi q
theorem FnG.frame {C C' : ConM} (F : FnG P w K mg base k f fd ps (spM K cl T C)) (h : ∀ ds m Q R, C' ds m Q R → ∃ m1, Le m1 m ∧ C ds m1 (fun d m2 => ∃ m', Le m' (ov m m1 m2) ∧ Q d m') fun e m2 => ∃ m', Le m' (ov m m1 m2) ∧ R e m') : FnG P w K mg base k f fd ps (spM K cl T C') :=
  F.imp fun vs H Q X ⟨P, m, ds, Qd, Xd, s, nt, tb, so, i, c, h1, h2⟩ => by
    obtain ⟨m1, l, c⟩ := h ds m Qd Xd c
    exact ⟨P, m1, ds, _, _, s, nt, tb, so.le l, i, c, fun d v m2 P' H' bk i ⟨m', l', q⟩ => h1 d v m' P' H' ((bk.frame so l).le l') i q, fun e cls d m2 P' H' bk xi ⟨m', l', q⟩ => h2 e cls d m' P' H' ((bk.frame so l).le l') xi q⟩
theorem okD {C : Con}
    (F : FunX K x qual st f fd) (S : FnScope N ps (defScope st)) (hps : ps.length ≤ N.length) (hl : ∀ ds Q R, C ds Q R → ds.length = ps.length)
    (hbody : ∀ (cdv : Value), fd.code = cdv → ∀ (A : Around) (outer : List Env) (s : Shared) (H : Hp) (E : DC) (Ex : XK), E.K = K → E.cl = cl → E.T = T → A.guards = some [] → Room k (A.deeper (PyProof.Rows.envOfC qual (defScope st) s.heap.objs.size f cdv)) →
      ∃ t, PSs (cxOf (L2.CX P w) P w K mg base N qual (defScope st) f cdv A outer s H Ex) (defBody st) (upS E (WD Ex) t) ∧ ∀ ds Q R, C ds Q R → t (conE Q R) (entry N.length ds)) : FnG P w K mg base (k + 1) f fd ps (spM K cl T (liftC C)) := by
  refine FnG.body F S (fun vs H Q E h => ?_) (fun cdv hcdv A outer s H vs Q Ex hG hr h => ?_)
  · obtain ⟨P, m, ds, Qd, Xd, s, _, _, _, i, c, _⟩ := h
    rw [i.length]; exact hl _ _ _ c
  · obtain ⟨P', m, ds, Qd, Xd, s', nt, tb, so, i, c, h1, h2⟩ := h
    obtain ⟨t, ht, hq⟩ := hbody cdv hcdv A outer s H ⟨K, cl, T, P', H, fun a => ∃ b, m0 a = some b⟩ Ex rfl rfl rfl hG hr
    have hvl : vs.length ≤ N.length := by rw [i.length, hl _ _ _ c]; exact hps
    refine ⟨_, ht, P', _, _, start_rep (m := m0) s' nt tb (so.le (.m0 m)) i N hvl, hq ds _ _ c, ⟨fun σ' Γ' P2 H2 s2 R2 q => ?_, fun d v σ' Γ' P2 H2 s2 R2 i2 q => ?_, fun _ _ _ _ _ _ z => z.elim, fun _ _ _ _ _ _ z => z.elim, fun σ' e Γ' P2 H2 cls d R2 xi q => ?_⟩⟩
    · exact h1 _ _ _ _ _ (R2.toBack.pure so) .v q
    · exact h1 _ _ _ _ _ (R2.toBack.pure so) i2 q
    · exact h2 _ _ _ _ _ _ (R2.toBack.pure so) xi q
@[simp] def entryI (n : Nat) (x dx : Addr) (c : Nat) (ds : List D) : DS := ⟨(.d (.v (.ref x)) :: (ds.map Sl.d ++ List.replicate (n - 1 - ds.length) .no)), fun a => if a = x then some (.ins c dx [] []) else none⟩
@[simp] def selfAt (x dx : Addr) (c : Nat) (Q : List Str → List D → Prop) (Γ : DS) : Prop := ∃ ns ws, Γ.m x = some (.ins c dx ns ws) ∧ Q ns ws
@[simp] def conI (x dx : Addr) (c : Nat) (Q : List Str → List D → Prop) (R : XD → Prop) : DEnds where
  nx := selfAt x dx c Q
  rt := fun d Γ => d = .v .non ∧ selfAt x dx c Q Γ
  ex := fun e _ => R e
theorem okI {C : ConI} {c : Nat}
    (F : FunX K x qual st f fd) (S : FnScope N ps (defScope st)) (hps : ps.length ≤ N.length) (hl : ∀ ds Q R, C ds Q R → ds.length + 1 = ps.length)
    (hbody : ∀ (cdv : Value), fd.code = cdv → ∀ (A : Around) (outer : List Env) (s : Shared) (H : Hp) (E : DC) (Ex : XK), E.K = K → E.cl = cl → E.T = T → A.guards = some [] → Room k (A.deeper (PyProof.Rows.envOfC qual (defScope st) s.heap.objs.size f cdv)) →
      ∃ t, PSs (cxOf (L2.CX P w) P w K mg base N qual (defScope st) f cdv A outer s H Ex) (defBody st) (upS E (WD Ex) t) ∧ ∀ y dx ds Q R, C ds Q R → t (conI y dx c Q R) (entryI N.length y dx c ds)) :
    FnG P w K mg base (k + 1) f fd ps (spM K cl T (initC c C)) := by
  refine FnG.body F S (fun vs H Q E h => ?_) (fun cdv hcdv A outer s H vs Q Ex hG hr h => ?_)
  · obtain ⟨P, m, ds, Qd, Xd, s, _, _, _, i, ⟨y, dx, ds', rfl, _, c⟩, _⟩ := h
    rw [i.length]; exact hl _ _ _ c
  · obtain ⟨P', m, ds, Qd, Xd, s', nt, tb, so, i, ⟨y, dx, ds', rfl, hm, cc⟩, h1, h2⟩ := h
    obtain ⟨t, ht, hq⟩ := hbody cdv hcdv A outer s H ⟨K, cl, T, P', H, fun a => ∃ b, (fun a => if a = y then some (Ob.ins c dx [] []) else none : Mm) a = some b⟩ Ex rfl rfl rfl hG hr
    have le1 : Le (fun a => if a = y then some (Ob.ins c dx [] []) else none) m := fun a b e => by
      dsimp only at e
      by_cases z : a = y
      · subst z; rw [if_pos rfl] at e; cases e; exact hm
      · rw [if_neg z] at e; cases e
    have hvl : vs.length ≤ N.length := by rw [i.length, List.length_cons, hl _ _ _ cc]; exact hps
    have st := start_rep s' nt tb (so.le le1) i N hvl
    have en : entryM N.length (.v (.ref y) :: ds') (fun a => if a = y then some (Ob.ins c dx [] []) else none) = entryI N.length y dx c ds' := by
      simp only [entryM, entryI, List.map_cons, List.cons_append, List.length_cons, Nat.sub_sub, Nat.add_comm 1]
    rw [en] at st
    have back : ∀ {Γ' : DS} {P2 H2 : Hp} {ns : List Str} {ws : List D}, Back K cl T (fun a => if a = y then some (Ob.ins c dx [] []) else none) P' H Γ'.m P2 H2 → Γ'.m y = some (.ins c dx ns ws) → Back K cl T m P' H (fun a => if a = y then some (.ins c dx ns ws) else m a) P2 H2 := fun {Γ' P2 H2 ns ws} bk e => (bk.frame so le1).le fun a b q => by
      unfold ov
      by_cases z : a = y
      · subst z; rw [if_pos rfl] at q; cases q; rw [e]
      · rw [if_neg z] at q
        simp only [if_neg z]
        split
        · rename_i b' e'
          rcases bk.o a _ e' with ⟨_, x⟩ | x
          · simp only [if_neg z] at x; cases x
          · obtain ⟨o, x', _⟩ := (so a b q).2.at_; rw [x] at x'; cases x'
        · exact q
    have backX : ∀ {m2 : Mm} {P2 H2 : Hp}, Back K cl T (fun a => if a = y then some (Ob.ins c dx [] []) else none) P' H m2 P2 H2 → Back K cl T m P' H (fun a => if a = y then none else m a) P2 H2 := fun {m2 P2 H2} bk => (bk.frame so le1).le fun a b q => by
      unfold ov
      by_cases z : a = y
      · rw [if_pos z] at q; cases q
      · rw [if_neg z] at q
        simp only [if_neg z]
        split
        · rename_i b' e'
          rcases bk.o a _ e' with ⟨_, x⟩ | x
          · simp only [if_neg z] at x; cases x
          · obtain ⟨o, x', _⟩ := (so a b q).2.at_; rw [x] at x'; cases x'
        · exact q
    have q0 := hq y dx ds' _ _ cc
    refine ⟨_, ht, P', _, _, st, q0, ⟨fun σ' Γ' P2 H2 s2 R2 ⟨ns, ws, e, q⟩ => ?_, fun d v σ' Γ' P2 H2 s2 R2 i2 ⟨ed, ns, ws, e, q⟩ => ?_, fun _ _ _ _ _ _ z => z.elim, fun _ _ _ _ _ _ z => z.elim, fun σ' e Γ' P2 H2 cls d R2 xi q => ?_⟩⟩
    · exact h1 _ _ _ _ _ (back R2.toBack e) .v q
    · subst ed
      exact h1 _ _ _ _ _ (back R2.toBack e) i2 q
    · exact h2 _ _ _ _ _ _ (backX R2.toBack) xi q
theorem FnG.con {C C' : ConM} (h : FnG P w K mg base k f fd ps (spM K cl T C)) (hc : ∀ ds m Q R, C' ds m Q R → C ds m Q R) : FnG P w K mg base k f fd ps (spM K cl T C') :=
  h.imp fun vs H Q X ⟨P, m, ds, Qd, Xd, s, nt, tb, so, i, c, h1, h2⟩ => ⟨P, m, ds, Qd, Xd, s, nt, tb, so, i, hc _ _ _ _ c, h1, h2⟩
theorem FnG.conD {C C' : Con} (h : FnG P w K mg base k f fd ps (spM K cl T (liftC C))) (hc : ∀ ds Q R, C' ds Q R → C ds Q R) : FnG P w K mg base k f fd ps (spM K cl T (liftC C')) :=
  h.con fun ds m Q R c => hc _ _ _ c
theorem ok_never {C : ConM} (h : ∀ ds m Q R, ¬ C ds m Q R) : FnG P w K mg base k f fd ps (spM K cl T C) :=
  ⟨fun vs H Q X ⟨_, _, _, _, _, _, _, _, _, _, c, _⟩ => absurd c (h _ _ _ _), fun A outer s H args us vs Q X _ _ _ _ _ ⟨_, _, _, _, _, _, _, _, _, _, c, _⟩ => absurd c (h _ _ _ _)⟩
end
theorem tkB {P : Program} {w : World} {K : PySem.W.Frag} {mg : Str → Option Value} {base : Heap} {N : List Str} {qual : Str} {scope : Scope} {f : Addr} {cd : Value} {A : Around} {outer : List Env} {s : Shared} {H : Hp} {Ex : XK} : Takes (cxOf (L2.CX P w) P w K mg base N qual scope f cd A outer s H Ex) (WD Ex) := takes_of rfl rfl rfl rfl
end
end DL

namespace DL
open PySem L2

section
variable {X : Cx} {pins : List (Addr × Obj)} {σ : L2.St} {H : Hp} {s : Shared}
theorem upd_id {H : Hp} {a : Addr} {o : HO} (h : H a = some o) : upd H a o = H := by
  funext b
  by_cases e : b = a
  · subst e; rw [upd_same, h]
  · rw [upd_ne e]
theorem Inv.retrack (I : Inv X pins σ H s) {a : Addr} {o : HO} (mu : Mut (H a)) (hn : ObjOk X.prog X.w (upd H a o) s.heap a o) : Inv X pins σ (upd H a o) s :=
  Inv.write (x := a) (e := a) (t' := s.toks) (h' := s.heap) I mu (.inl rfl) (fun _ _ _ q => q) (objOk_get hn) hn
theorem vals3 {x y c : Int} {t u r : Tok} : Vals [.int x, .int y, .int c] [.int x t, .int y u, .int c r] := .cons ⟨t, rfl⟩ (.cons ⟨u, rfl⟩ (.cons ⟨r, rfl⟩ .nil))
theorem three_line : ([V.int 0, V.int 0, V.int 0] : List V).length ≤ sizeLine := by rw [sizeLine_eq]; decide
theorem Inv.openStk (I : Inv X pins σ H s) {a : Addr} (h : H a = some (stkO a)) : ∃ x y c : Int, 0 ≤ x ∧ 0 ≤ y ∧ y < 2147483648 ∧ 0 ≤ c ∧ Inv X pins σ (upd H a (.lst [.int x, .int y, .int c])) s := by
  obtain ⟨⟨x, y, c, t, u, r, n, e, h1, h2, h3, h4⟩, _, _⟩ := (show ObjOk X.prog X.w H s.heap a (stkO a) from I.hok a _ h)
  refine ⟨x, y, c, h1, h2, h3, h4, Inv.retrack I (by rw [h]; trivial) ⟨three_line, _, n, vals3, e⟩⟩
theorem Inv.closeStk (I : Inv X pins σ H s) {a : Addr} {x y c : Int} (h : H a = some (.lst [.int x, .int y, .int c])) (h1 : 0 ≤ x) (h2 : 0 ≤ y) (h3 : y < 2147483648) (h4 : 0 ≤ c) : Inv X pins σ (upd H a (stkO a)) s := by
  obtain ⟨_, its, n, r, e⟩ := (show ObjOk X.prog X.w H s.heap a (.lst [.int x, .int y, .int c]) from I.hok a _ h)
  cases r with
  | cons r1 r =>
    cases r with
    | cons r2 r =>
      cases r with
      | cons r3 r =>
        cases r
        obtain ⟨t, rfl⟩ := r1
        obtain ⟨u, rfl⟩ := r2
        obtain ⟨w, rfl⟩ := r3
        refine Inv.retrack I (by rw [h]; trivial) ⟨⟨x, y, c, t, u, w, n, e, h1, h2, h3, h4⟩, ⟨_, e⟩, fun g1 g2 ⟨x, y, c, t, u, w, n, e, h1, h2, h3, h4⟩ k => ⟨x, y, c, t, u, w, n, k _ e, h1, h2, h3, h4⟩⟩
def stkOk (k : Int) (z : Int) : Prop := (k = 0 ∧ 0 ≤ z) ∨ (k = 1 ∧ 0 ≤ z ∧ z < 2147483648) ∨ (k = 2 ∧ 0 ≤ z)
def rIxStk : R2 := fun x y H Q => ∃ a i, x = .ref a ∧ y = .int i ∧ H a = some (stkO a) ∧ 0 ≤ i ∧ i < 3 ∧ ∀ z, stkOk i z → Q (.int z) H
theorem ix_stk : IxR X rIxStk := by
  intro value slice pins s σ H x y v u Q I rx ry h hs
  obtain ⟨a, i, rfl, rfl, ha, h0, h3, hq⟩ := h
  obtain ⟨x, y, c, p1, p2, p3, p4, I1⟩ := Inv.openStk I ha
  have back : ∀ {s' : Shared}, Inv X pins σ (upd H a (.lst [.int x, .int y, .int c])) s' → Inv X pins σ H s' := fun I' => by
    have := Inv.closeStk I' upd_same p1 p2 p3 p4
    rw [upd_upd, upd_id ha] at this
    exact this
  have key : ∀ z, atI [V.int x, V.int y, V.int c] i = some (.int z) → stkOk i z → wpAny (model X.prog X.w) X.A (PyProof.Rows.subscriptTail value slice v u) (EP X pins σ Q) X.xe s := fun z ez oz => by
    refine wpAny_mono (ix_list value slice pins s σ _ (.ref a) (.int i) v u (fun v' H' => v' = .int z ∧ H' = upd H a (.lst [.int x, .int y, .int c])) I1 rx ry ⟨a, _, i, _, rfl, rfl, .of upd_same, ez, rfl, rfl⟩ hs) (fun r s' ⟨v', H', I', r', e1, e2⟩ => ?_) fun _ _ q => q
    subst e1; subst e2
    exact ⟨_, H, back I', r', hq z oz⟩
  have hi : i = 0 ∨ i = 1 ∨ i = 2 := by omega
  rcases hi with rfl | rfl | rfl
  · exact key x rfl (.inl ⟨rfl, p1⟩)
  · exact key y rfl (.inr (.inl ⟨rfl, p2, p3⟩))
  · exact key c rfl (.inr (.inr ⟨rfl, p4⟩))
def rSetStk : V → V → V → Hp → (Hp → Prop) → Prop := fun o i v H Q => ∃ a k z, o = .ref a ∧ i = .int k ∧ v = .int z ∧ H a = some (stkO a) ∧ stkOk k z ∧ Q H
theorem set_stk : PSet X rSetStk := by
  intro pins s σ H o i v ov iv u Q I ro ri rv h
  obtain ⟨a, k, z, rfl, rfl, rfl, ha, oz, hq⟩ := h
  obtain ⟨x, y, c, p1, p2, p3, p4, I1⟩ := Inv.openStk I ha
  have key : ∀ (x' y' c' : Int) (j : Nat), ixN 3 k = some j → [V.int x, V.int y, V.int c].set j (.int z) = [.int x', .int y', .int c'] → 0 ≤ x' → 0 ≤ y' → y' < 2147483648 → 0 ≤ c' →
      wpAny (model X.prog X.w) X.A (setItem ov iv u) (fun _ s' => ∃ H', Inv X pins σ H' s' ∧ Q H') X.xe s := fun x' y' c' j hj e q1 q2 q3 q4 => by
    refine wpAny_mono (set_list pins s σ _ (.ref a) (.int k) (.int z) ov iv u (fun H' => H' = upd H a (.lst [.int x', .int y', .int c'])) I1 ro ri rv ⟨a, _, k, j, rfl, rfl, upd_same, hj, by rw [e, upd_upd]⟩) (fun _ s' ⟨H', I', e1⟩ => ?_) fun _ _ q => q
    subst e1
    have := Inv.closeStk I' upd_same q1 q2 q3 q4
    rw [upd_upd, upd_id ha] at this
    exact ⟨H, this, hq⟩
  rcases oz with ⟨rfl, h1⟩ | ⟨rfl, h1, h2⟩ | ⟨rfl, h1⟩
  · exact key z y c 0 rfl rfl h1 p2 p3 p4
  · exact key x z c 1 rfl rfl p1 h1 h2 p4
  · exact key x y z 2 rfl rfl p1 p2 p3 h1
end

section
variable {E : DC} {W : WX} {P P' H H' : Hp} {σ σ' : L2.St} {Γ Γ' : DS} {X : Cx}
variable {a b c e o : Expr} {es : List Expr} {ta tb tc te : DE} {pos p apos p1 : Pos} {tas : DA}
@[simp] def dStk (i : Nat) (k : Int) : DE := fun x Γ Q => match Γ.s[i]? with
  | some (.d .stk) => ∀ z, stkOk k z → Q (.v (.int z)) Γ
  | _ => False
theorem de_stk (i : Nat) {k : Int} {x : Str} {j : Nat} {p2 : Pos} (h0 : 0 ≤ k := by decide) (h3 : k < 3 := by decide) (hN : X.N[i]? = some x := by rfl) (hv : Vis X.env.scope x := by first | exact Or.inl rfl | exact Or.inr (Or.inl rfl) | exact Or.inr (Or.inr rfl)) (hd : (x == ("__debug__" : Str)) = false := by decide)
    (hcd : (x == ("__classdict__" : Str)) = false := by decide) (hs : PlainIx (.Constant (.int k) j p2) := by exact fun _ _ => rfl) : PE X (.Subscript (.Name x p1) (.Constant (.int k) j p2) pos) (up E W (dStk i k)) :=
  impE (pe_ix ix_stk (pv i hN hv hd hcd) pe_int hs) fun σ H Q h => by
    obtain ⟨P, Γ, x, Qd, R, hT, hx, hQ⟩ := h
    unfold dStk at hT
    split at hT
    · rename_i e
      obtain ⟨v, e1, q⟩ := R.get e
      obtain ⟨a, rfl, ha⟩ := q.stk_inv
      exact ⟨_, e1, a, k, rfl, rfl, R.sub _ _ ha, h0, h3, fun z hz => hQ _ _ _ _ _ .refl R .v (hT z hz)⟩
    · exact hT.elim
@[simp] def dGStk (i : Nat) (k : Int) : DG := fun d Γ Q => match Γ.s[i]?, d with
  | some (.d .stk), .v (.int z) => stkOk k z ∧ Q Γ
  | _, _ => False
theorem dg_stk (i : Nat) {k : Int} {x : Str} {j : Nat} {p2 : Pos} (hN : X.N[i]? = some x := by rfl) (hv : Vis X.env.scope x := by first | exact Or.inl rfl | exact Or.inr (Or.inl rfl) | exact Or.inr (Or.inr rfl)) (hd : (x == ("__debug__" : Str)) = false := by decide)
    (hcd : (x == ("__classdict__" : Str)) = false := by decide) (ha : ∀ v, assign (.Subscript (.Name x p1) (.Constant (.int k) j p2) pos) X.env v = (do
      let ov ← holding [v] (eval (.Name x p1) X.env)
      let iv ← holding [v, ov] (eval (.Constant (.int k) j p2) X.env)
      standAt pos
      holding [v, ov, iv] (setItem ov iv v)
      release [v, ov, iv] []) := by intro _; rfl) : PG X (.Subscript (.Name x p1) (.Constant (.int k) j p2) pos) (upG E [] (dGStk i k)) := ⟨fun pins s σ H v u Q I r h => by
  refine (pg_sub (pv i hN hv hd hcd) pe_int set_stk ha).run pins s σ H v u Q I r ?_
  obtain ⟨P, Γ, d, Qd, R, hi, hT, hQ⟩ := h
  unfold dGStk at hT
  split at hT
  · rename_i e
    obtain ⟨v', e1, q⟩ := R.get e
    obtain ⟨a, rfl, ha⟩ := q.stk_inv
    exact ⟨_, e1, a, k, _, rfl, rfl, hi.v_inv, R.sub _ _ ha, hT.1, hQ _ _ _ _ .refl R (fun _ _ => rfl) hT.2⟩
  · exact hT.elim⟩
@[simp] def dMkStk (t : DA) : DE := fun x Γ Q => t x Γ fun ds Γ1 => match ds with
  | [.v (.int x), .v (.int y), .v (.int c)] => 0 ≤ x ∧ 0 ≤ y ∧ y < 2147483648 ∧ 0 ≤ c ∧ Q .stk Γ1
  | _ => False
theorem pe_mkStk {e : Expr} {t : TE} (h : PE X e t) : PE X e (fun σ H Q => t σ H fun v H1 => ∃ a x y c, v = .ref a ∧ H1 a = some (.lst [.int x, .int y, .int c]) ∧ 0 ≤ x ∧ 0 ≤ y ∧ y < 2147483648 ∧ 0 ≤ c ∧ Q v (upd H1 a (stkO a))) := ⟨fun pins s σ H Q I hh =>
  thn (h.run pins s σ H _ I hh) fun u s1 ⟨v, H1, I1, r1, a, x, y, c, e, ha, h1, h2, h3, h4, q⟩ => ⟨v, _, Inv.closeStk I1 ha h1 h2 h3 h4, r1, q⟩⟩
theorem de_mkStk (h : PA X es (upA E W tas)) : PE X (.List es pos) (up E W (dMkStk tas)) := impE (pe_mkStk (pe_lst h)) fun σ H Q h => by
  obtain ⟨P, Γ, x, Qd, R, hT, hx, hQ⟩ := h
  refine ⟨P, Γ, x, _, R, hT, hx, fun ds Γ1 vs P1 H1 g1 R1 i1 h1 => ?_⟩
  split at h1
  · obtain ⟨a, r, rfl, ia, ir⟩ := i1.cons_inv
    obtain ⟨b, c, rfl, ib, ic⟩ := ir.two
    rw [ia.v_inv, ib.v_inv, ic.v_inv]
    refine ⟨by show 3 ≤ sizeLine; rw [sizeLine_eq]; decide, fun p hp => ⟨p, _, _, _, rfl, upd_same, h1.1, h1.2.1, h1.2.2.1, h1.2.2.2.1, ?_⟩⟩
    rw [upd_upd]
    exact hQ _ _ _ _ _ (g1.trans (Gr.alloc R1 _ hp)) (R1.alloc _ hp) (by unfold Is; exact ⟨p, rfl, upd_same⟩) h1.2.2.2.2
  · exact h1.elim
end
end DL

namespace DL
open PySem L2 PySem.Calls

section
variable {E : DC} {W : WX} {P P' H H' : Hp} {σ σ' : L2.St} {Γ Γ' : DS} {X : Cx}
theorem putF_new {f : Str} {v : V} : ∀ {fs : List (Str × V)}, idx f (fs.map (·.1)) = none → putF f v fs = fs ++ [(f, v)]
  | [], _ => rfl
  | (g, y) :: r, h => by
    rw [List.map_cons] at h
    unfold idx at h
    by_cases e : f = g
    · rw [if_pos e] at h; cases h
    · rw [if_neg e] at h
      simp only [Option.map_eq_none_iff] at h
      unfold putF
      rw [if_neg (fun z => e z.symm), putF_new h]; rfl
theorem putF_old {f : Str} {v : V} : ∀ {fs : List (Str × V)} {k : Nat}, idx f (fs.map (·.1)) = some k → (putF f v fs).map (·.1) = fs.map (·.1) ∧ (putF f v fs).map (·.2) = (fs.map (·.2)).set k v
  | [], k, h => by simp [idx] at h
  | (g, y) :: r, k, h => by
    rw [List.map_cons] at h
    unfold idx at h
    by_cases e : f = g
    · rw [if_pos e] at h
      cases h
      unfold putF
      rw [if_pos e.symm]
      exact ⟨rfl, rfl⟩
    · rw [if_neg e] at h
      simp only [Option.map_eq_some_iff] at h
      obtain ⟨j, h1, rfl⟩ := h
      obtain ⟨q1, q2⟩ := putF_old (v := v) h1
      unfold putF
      rw [if_neg (fun z => e z.symm)]
      exact ⟨by rw [List.map_cons, List.map_cons, q1], by rw [List.map_cons, List.map_cons, q2]; rfl⟩
theorem Rep.change (R : Rep E P H σ Γ) {a : Addr} {b b' : Ob} {o o' : HO} (h : Γ.m a = some b) (ho : H a = some o) (n1 : ∀ ps, o ≠ .tbl ps) (n2 : ∀ φ, o ≠ .ext φ) (ob : ObAt E.K E.cl P (upd H a o') a b') : Rep E P (upd H a o') σ (Γ.put a (some b')) ∧ Gr σ Γ P H (Γ.put a (some b')) P (upd H a o') := by
  obtain ⟨h1, _, h3⟩ := R.st a b h
  refine ⟨R.own_put h1 (fun c hc => upd_ne hc) (fun ps z => n1 ps (Option.some.inj (ho.symm.trans z))) (fun φ z => n2 φ (Option.some.inj (ho.symm.trans z))) ob h3, ⟨Same.refl P, fun c u e => .inl ⟨u, e⟩, fun c u e _ n => ?_, fun c u e => ?_, fun c u e => ?_⟩⟩
  · rw [upd_ne fun z => by subst z; rw [h] at n; cases n]; exact e
  · by_cases z : c = a
    · subst z; exact ⟨_, upd_same⟩
    · exact ⟨u, by rw [upd_ne z]; exact e⟩
  · simp only [DS.put] at e
    by_cases z : c = a
    · subst z; exact .inl ⟨_, h⟩
    · rw [if_neg z] at e; exact .inl ⟨_, e⟩
@[simp] def dFst (f : Str) (to te : DE) : DST := fun De Γ => te De.ex Γ fun d Γ1 => to De.ex Γ1 fun od Γ2 => match od with
  | .v (.ref a) => match Γ2.m a with
    | some (.ins c dx ns ws) => (c < 100 ∧ ns.length < 1000) ∧ match idx f ns with
      | none => De.nx (Γ2.put a (some (.ins c dx (ns ++ [f]) (ws ++ [d]))))
      | some k => De.nx (Γ2.put a (some (.ins c dx ns (ws.set k d))))
    | _ => False
  | _ => False
variable {value o : Expr} {te to : DE} {pos pos' : Pos} {f : Str}
theorem d_fst (hK : X.K = E.K) (hc : ∀ c, c < 100 → Cls E.K (E.cl c)) (hn : ∀ c, c < 100 → NoAttr E.K (E.cl c) f) (ho : PE X o (up E W to)) (hv : PE X value (up E W te)) (hs : swapsWith value (some (.Attribute o f pos')) pos.line X.env = pure false := by rfl) : PS X (.Assign [.Attribute o f pos'] value pos) (upS E W (dFst f to te)) :=
  impS (ps_fld ho hv hs) fun D σ H h => by
    obtain ⟨P, Γ, De, R, hT, L⟩ := h
    refine ⟨P, Γ, _, _, R, hT, L.ex σ, fun d Γ1 v P1 H1 g1 R1 i1 h1 => ?_⟩
    refine ⟨P1, Γ1, _, _, R1, h1, L.ex σ, fun od Γ2 ov P2 H2 g2 R2 i2 h2 => ?_⟩
    split at h2
    · rename_i a
      split at h2
      · rename_i c dx ns ws e
        obtain ⟨⟨hlt, hl⟩, h2⟩ := h2
        obtain ⟨pa, ⟨fs, ha, rfl, iw⟩, _⟩ := R2.st _ _ e
        have hl' : fs.length < 1000 := by simpa using hl
        have i1' := i1.mono g2.p
        refine ⟨a, _, dx, fs, i2.v_inv, ha, by rw [hK]; exact hc _ hlt, by rw [hK]; exact hn _ hlt, hl', ?_⟩
        split at h2
        · rename_i ek
          have q := R2.change (b' := .ins c dx (fs.map (·.1) ++ [f]) (ws ++ [d])) (o' := .ins (E.cl c) dx (putF f v fs)) e ha (fun ps => nofun) (fun ps => nofun) ⟨_, upd_same, by rw [putF_new ek]; simp, by
            rw [putF_new ek]
            simp only [List.map_append, List.map_cons, List.map_nil]
            exact iw.append (.cons i1' .nil)⟩
          exact L.nx _ _ _ _ (g1.p.trans (g2.p.trans q.2.p)) q.1 h2
        · rename_i k ek
          obtain ⟨q1, q2⟩ := putF_old (v := v) ek
          have q := R2.change (b' := .ins c dx (fs.map (·.1)) (ws.set k d)) (o' := .ins (E.cl c) dx (putF f v fs)) e ha (fun ps => nofun) (fun ps => nofun) ⟨_, upd_same, q1, by rw [q2]; exact iw.set k i1'⟩
          exact L.nx _ _ _ _ (g1.p.trans (g2.p.trans q.2.p)) q.1 h2
      · exact h2.elim
    · exact h2.elim
end
end DL

namespace DL
open PySem L2 PySem.Calls

section
open PySem.W PyProof.Rows
variable {prog : Program} {w : World} {A : Around} {E : Value → Shared → Prop} {s : Shared} {K : Frag} {x C f : Addr} {ox : Obj} {od : Option Obj}
theorem repr_own {Q : Value → Shared → Prop} (hu : A.units + 1 < cLine) (X : K.In s.heap) (I : InstAt s.heap x ox C od) (hs : findIn K (.ref C) "__repr__" = some (some (.ref f))) (hf : isFn K (.ref f) = true)
    (h : wpAny (model prog w) A.in1 (call (.ref f) [.ref x]) (fun v s' => ∃ y t, v = .str y t ∧ Q v s') E s) : wpAny (model prog w) A (call (.builtin "repr") [.ref x]) Q E s := by
  refine call_function_entry PySem.F.kind_repr PySem.F.plain_repr PySem.F.entry_repr (PySem.F.args_repr1 _) ?_
  unfold Builtin.«repr»
  refine wpAny_bind (m := oneArg "repr" _) (wpAny_pure (wpAny_bind (m := cRoomFor _ _) (wpAny_cRoomFor hu ?_)))
  refine wpAny_bind (m := specialOf (.ref x) (Str.ofString "__repr__")) ?_
  unfold specialOf
  refine wpAny_bind (I.type.here ((looks_findIn X hs).here ?_))
  refine wpAny_bind (m := callSpecialIfBound? (.ref x) (Str.ofString "__repr__")) (ifBound_K X I hs hf (wpAny_mono h (fun r s₁ h₁ => ?_) fun _ _ e => e))
  obtain ⟨y, t, rfl, hq⟩ := h₁
  exact wpAny_bind (wpAny_isInstance (T := "str") (b := true) rfl isSubtype_str_str (wpAny_pure ⟨_, rfl, hq⟩))
open Builtin Builtin.Str in
theorem str_own {Q : Value → Shared → Prop} (hu : A.in1.in1.units < cLine) (X : K.In s.heap) (I : InstAt s.heap x ox C od) (hs : findIn K (.ref C) "__str__" = some (some (.ref f))) (hf : isFn K (.ref f) = true)
    (h : wpAny (model prog w) A.in1.in1 (call (.ref f) [.ref x]) (fun v s' => ∃ y t, v = .str y t ∧ Q v s') E s) : wpAny (model prog w) A (call (.type "str") [.ref x]) Q E s := by
  refine callType_codes (T := "str") (Bi := Builtin.«object.__init__») (Q₁ := fun r s₁ => ∃ y u, r = .str y u ∧ Q r s₁) PySem.F.called_str (PySem.F.typeCall_str_1 _) PySem.F.entry_object_init ?_ ?_
  · refine codeAny_of_tree ?_
    show wpAny _ A.in1.in1 (do checkBuiltinCall "str.__new__" ⟨[.type "str", .ref x], []⟩; again (.builtin "str.__new__" ⟨[.type "str", .ref x], []⟩)) _ _ s
    refine wpAny_bind (wpAny_of_eq (PySem.F.newCall_str_1 _) (wpAny_pure ⟨plainId_quiet (by decide +kernel) _, codeAny_builtin PySem.F.entry_str_new ?_⟩))
    rw [Around.under_plainId (by decide +kernel) _, str_new_tree]
    refine wpAny_bind (wpAny_pure (wpAny_bind (wpAny_of_eq isSubtype_str_str ?_)))
    have key : wpAny (model prog w) A.in1.in1 (PySem.Builtin.Str.strOf (.ref x)) (fun r s₁ => ∃ y u, r = .str y u ∧ Q r s₁) E s := by
      unfold PySem.Builtin.Str.strOf
      rw [show isExactStr (.ref x) = false from rfl]
      refine wpAny_bind (m := cRoomFor _ _) (wpAny_cRoomFor hu ?_)
      refine wpAny_bind (m := callSpecial? (.ref x) (Str.ofString "__str__")) (special_fn X I hs (beq_iff_eq.mp hf) (wpAny_mono h (fun r s' z => ?_) fun _ _ y => y))
      obtain ⟨y, t, rfl, hq⟩ := z
      exact wpAny_pure ⟨_, _, rfl, hq⟩
    exact wpAny_bind (wpAny_mono key (fun r s₁ hr => wpAny_pure hr) fun _ _ y => y)
  · rintro obj s₁ ⟨y, u, rfl, hq⟩
    exact ⟨typeIs_str _ _ _, PySem.F.args_object_init_2 _ _, object_init_meets PySem.F.called_str.init.lookup PySem.F.called_str.made (by decide) prog w A.in1 _ s₁ ⟨typeIs_str _ _ _, rfl, hq⟩⟩
end

section
variable {E : DC} {W : WX} {P P' H H' : Hp} {σ σ' : L2.St} {Γ Γ' : DS} {X : Cx}
variable {a b c e o : Expr} {es : List Expr} {ta tb tc te : DE} {pos p apos p1 : Pos} {tas : DA}
variable {k cn : Nat} {f : Addr} {fd : FuncData} {ps : List Str} {C : ConM}
@[simp] def dOwnS (cs : List Nat) (C : ConM) (ta : DA) : DE := fun x Γ Q => ta x Γ fun ds Γ1 => match ds with
  | [d] => match clsOf Γ1.m d with
    | some (c', _, _) => c' ∈ cs ∧ C [d] Γ1.m (fun d m' => ∃ y, d = .v (.str y) ∧ Q d ⟨Γ1.s, m'⟩) fun _ _ => False
    | none => False
  | _ => False
def rOwnH (E : DC) (cs : List Nat) (sp : Sp) : List V → Hp → VK → Prop := fun vs H Q => ∃ c a dx fs, c ∈ cs ∧ vs = [.ref a] ∧ H a = some (.ins (E.cl c) dx fs) ∧ sp [.ref a] H (fun v H' => ∃ y, v = .str y ∧ Q v H') E0
theorem up_ownS {cs : List Nat} {Q : VK} (h : up E W (dOwnS cs C tas) σ H Q) : tCB (rOwnH E cs (spM E.K E.cl E.T C)) (upA E W tas) σ H Q := by
  obtain ⟨P, Γ, x, Qd, R, hT, hx, hQ⟩ := h
  refine ⟨P, Γ, x, _, R, hT, hx, fun ds Γ1 vs P1 H1 g1 R1 i1 h1 => ?_⟩
  split at h1
  · split at h1
    · rename_i c' ns ws ec
      obtain ⟨hcs, h1⟩ := h1
      have i1' := i1
      obtain ⟨v, rfl, iv⟩ := i1.one
      obtain ⟨q, dx, fs, rfl, hq, rfl, hw, _⟩ := clsOf_ok R1 iv ec
      exact ⟨c', q, dx, fs, hcs, rfl, hq, P1, _, _, _, _, R1.sub, R1.nt, R1.tb, R1.stok, i1', h1, fun d v m' P' H' bk i q => by
        obtain ⟨y, rfl, q⟩ := q
        exact ⟨y, i.v_inv, hQ _ _ _ _ _ (g1.trans (.back bk)) (R1.back bk) i q⟩, fun _ _ _ _ _ _ _ _ z => z.elim⟩
    · exact h1.elim
  · exact h1.elim
theorem own_str (hK : X.K = E.K) (hG : X.A.guards = some []) {cs : List Nat} (hs : ∀ c ∈ cs, PySem.W.findIn E.K (.ref (E.cl c)) "__str__" = some (some (.ref f))) (hf : PySem.W.isFn E.K (.ref f) = true) (F : FnG X.prog X.w X.K X.mg X.base k f fd ps (spM E.K E.cl E.T C)) (hr : Room (k + 2) X.A) (hb : Bnd X.K fd ps 1 0 [] []) :
    CallR X (.type "str") (rOwnH E cs (spM E.K E.cl E.T C)) := by
  intro pins s σ H xs us Q I r h
  obtain ⟨c, a, dx, fs, hcs, rfl, ha, h⟩ := h
  obtain ⟨u, rfl, rfl⟩ := vals1 r
  obtain ⟨mA, O, _⟩ := ins_get I.hok ha
  obtain ⟨od, J, _⟩ := O.look
  refine str_own (K := X.K) (by have := hr.un; show X.A.units + 1 + 1 < cLine; omega) I.kIn J (by rw [hK]; exact hs c hcs) (by rw [hK]; exact hf) ?_
  refine call_g1 (A := X.A.in1.in1) (gs := [.ref a]) hG I.ok.frames F hr.in1.in1 hb I (.cons rfl .nil) rfl h fun u s' q => ?_
  obtain ⟨v, H', I3, rv, y, rfl, q3⟩ := q
  obtain ⟨t, rfl⟩ := rv
  exact ⟨y, t, rfl, .str y, H', I3, ⟨t, rfl⟩, q3⟩
theorem own_repr (hK : X.K = E.K) (hG : X.A.guards = some []) {cs : List Nat} (hs : ∀ c ∈ cs, PySem.W.findIn E.K (.ref (E.cl c)) "__repr__" = some (some (.ref f))) (hf : PySem.W.isFn E.K (.ref f) = true) (F : FnG X.prog X.w X.K X.mg X.base k f fd ps (spM E.K E.cl E.T C)) (hr : Room (k + 2) X.A) (hb : Bnd X.K fd ps 1 0 [] []) :
    CallR X (.builtin "repr") (rOwnH E cs (spM E.K E.cl E.T C)) := by
  intro pins s σ H xs us Q I r h
  obtain ⟨c, a, dx, fs, hcs, rfl, ha, h⟩ := h
  obtain ⟨u, rfl, rfl⟩ := vals1 r
  obtain ⟨mA, O, _⟩ := ins_get I.hok ha
  obtain ⟨od, J, _⟩ := O.look
  refine repr_own (K := X.K) (by have := hr.un; omega) I.kIn J (by rw [hK]; exact hs c hcs) (by rw [hK]; exact hf) ?_
  refine call_g1 (A := X.A.in1) (gs := [.ref a]) hG I.ok.frames F (hr.mono (Nat.le_succ _)).in1 hb I (.cons rfl .nil) rfl h fun u s' q => ?_
  obtain ⟨v, H', I3, rv, y, rfl, q3⟩ := q
  obtain ⟨t, rfl⟩ := rv
  exact ⟨y, t, rfl, .str y, H', I3, ⟨t, rfl⟩, q3⟩

theorem py_noDict : ∀ (d : D) (p : PyData), py d = some p → p.hasDict = false
  | .v x, p, e => by cases x <;> simp only [py, Option.some.injEq, reduceCtorEq] at e <;> (subst e; simp only [PyData.hasDict])
  | .lst ds, p, e => by
    simp only [py, Option.map_eq_some_iff] at e
    obtain ⟨ps, e1, rfl⟩ := e
    simp only [PyData.hasDict]; exact go ds ps e1
  | .kst ds, p, e => by
    simp only [py, Option.map_eq_some_iff] at e
    obtain ⟨ps, e1, rfl⟩ := e
    simp only [PyData.hasDict]; exact go ds ps e1
  | .tup ds, p, e => by
    simp only [py, Option.map_eq_some_iff] at e
    obtain ⟨ps, e1, rfl⟩ := e
    simp only [PyData.hasDict]; exact go ds ps e1
  | .dic _ _, p, e => by simp [py] at e
  | .obj _ _ _, p, e => by simp [py] at e
  | .stk, p, e => by simp [py] at e
where go : ∀ (ds : List D) (ps : List PyData), py.pyA ds = some ps → PyData.hasDictAll ps = false
  | [], ps, e => by simp only [py.pyA, Option.some.injEq] at e; subst e; simp only [PyData.hasDictAll]
  | d :: ds, ps, e => by
    unfold py.pyA at e
    split at e
    · rename_i p qs e1 e2
      cases e
      simp only [PyData.hasDictAll, py_noDict d p e1, go ds qs e2, Bool.or_false]
    · cases e
@[simp] def dRepr : RND := fun ds Q => match ds with
  | [.v .non] => Q (.v (.str "None"))
  | [.v (.bl b)] => Q (.v (.str (if b then "True" else "False")))
  | [.v (.int i)] => i.natAbs.log2 < 1920 ∧ Q (.v (.str (toString i)))
  | [.v (.str x)] => (reprText x).length ≤ sizeLine ∧ Q (.v (.str (reprText x)))
  | [.dic [] []] => Q (.v (.str (PyData.dict []).shown))
  | [d] => match py d with
    | some p => (p.showable = true ∧ p.shown.length ≤ sizeLine ∧ p.depth ≤ 60) ∧ Q (.v (.str p.shown))
    | none => False
  | _ => False
def rReprH (K : PySem.W.Frag) : List V → Hp → VK → Prop := fun xs H Q => (xs = [.non] ∧ Q (.str "None") H) ∨ (∃ b, xs = [.bl b] ∧ Q (.str (if b then "True" else "False")) H) ∨ (∃ i, xs = [.int i] ∧ i.natAbs.log2 < 1920 ∧ Q (.str (toString i)) H) ∨
  (∃ x, xs = [.str x] ∧ (reprText x).length ≤ sizeLine ∧ Q (.str (reprText x)) H) ∨ (∃ a p, xs = [.ref a] ∧ Dp K H (.ref a) p ∧ p.hasDict = false ∧ (p.showable = true ∧ p.shown.length ≤ sizeLine ∧ p.depth ≤ 60) ∧ Q (.str p.shown) H) ∨ ∃ a, xs = [.ref a] ∧ H a = some (.dK []) ∧ Q (.str (PyData.dict []).shown) H
theorem cRepr (hK : X.K = E.K) (hG : X.A.guards = some []) (hu : X.A.units + 64 < cLine) : CallR X (.builtin "repr") (rReprH E.K) := by
  rw [← hK]
  intro pins s σ H xs us Q I r h
  rcases h with ⟨rfl, q⟩ | ⟨b, rfl, q⟩ | ⟨i, rfl, hi, q⟩ | ⟨x, rfl, hx, q⟩ | ⟨a, p, rfl, hd, hn, ⟨h1, h2, h3⟩, q⟩ | ⟨a, rfl, ha, q⟩
  · obtain ⟨u, rfl, rfl⟩ := vals1 r
    exact PySem.P.repr_of_none ⟨.str _, H, I.tok _, ⟨_, rfl⟩, q⟩
  · obtain ⟨u, rfl, rfl⟩ := vals1 r
    exact PySem.P.repr_of_bool ⟨.str _, H, I.tok _, ⟨_, rfl⟩, q⟩
  · obtain ⟨u, rfl, t, rfl⟩ := vals1 r
    exact PySem.P.repr_of_int hi ⟨.str _, H, I.tok _, ⟨_, rfl⟩, q⟩
  · obtain ⟨u, rfl, t, rfl⟩ := vals1 r
    exact PySem.P.repr_of_str ⟨.str _, H, I.tok _, ⟨_, rfl⟩, q⟩ hx
  · obtain ⟨u, rfl, rfl⟩ := vals1 r
    obtain ⟨as, rd⟩ := Dp.reads I p _ _ hd rfl
    exact repr_of_reads' rd h1 (PySem.PyData.noDict_hsm hn) hG (by omega) (fun _ _ q => q) (fun h' u tk k => ⟨.str _, H, I.kept k, ⟨_, rfl⟩, q⟩) h2
  · obtain ⟨u, rfl, rfl⟩ := vals1 r
    obtain ⟨_, hsm, vs, kv, o, es, ep, g1, g2, g3, _, pr, _⟩ := dk_of I.hok ha
    cases kv
    have e0 : es.toList = [] := List.length_eq_zero_iff.mp pr.length
    have rd : Reads s.heap (.ref a) (.dict []) (a :: [] ++ []) := .dict g1 g2.1 g3 (by rw [e0]; exact .nil) (by rw [e0]; exact .nil)
    exact repr_of_reads' rd rfl (fun _ z => by
      rcases List.mem_cons.mp z with z | z
      · rw [← z] at hsm; simp at hsm
      · cases z) hG (Nat.lt_of_le_of_lt (Nat.add_le_add_left (show (PyData.dict []).depth + 1 ≤ 64 by decide) _) hu) (fun _ _ q => q) (fun h' u tk k => ⟨.str _, H, I.kept k, ⟨_, rfl⟩, q⟩) (by decide +kernel)
theorem lk_repr : LkN E (rReprH E.K) dRepr := by
  intro P H σ Γ ds vs Q Qd R i hr hQ
  unfold dRepr at hr
  split at hr
  · obtain ⟨x, rfl, i1⟩ := i.one; rw [i1.v_inv]; exact .inl ⟨rfl, hQ _ _ P H .refl R .v hr⟩
  · obtain ⟨x, rfl, i1⟩ := i.one; rw [i1.v_inv]; exact .inr (.inl ⟨_, rfl, hQ _ _ P H .refl R .v hr⟩)
  · obtain ⟨x, rfl, i1⟩ := i.one; rw [i1.v_inv]; exact .inr (.inr (.inl ⟨_, rfl, hr.1, hQ _ _ P H .refl R .v hr.2⟩))
  · obtain ⟨x, rfl, i1⟩ := i.one; rw [i1.v_inv]; exact .inr (.inr (.inr (.inl ⟨_, rfl, hr.1, hQ _ _ P H .refl R .v hr.2⟩)))
  · obtain ⟨x, rfl, i1⟩ := i.one
    obtain ⟨a, kvs, rfl, ha, hk, _⟩ := i1.dic_inv
    obtain rfl := List.map_eq_nil_iff.mp hk
    exact .inr (.inr (.inr (.inr (.inr ⟨a, rfl, R.sub _ _ ha, hQ _ _ P H .refl R .v hr⟩))))
  · rename_i d n1 n2 n3 n4 n5
    split at hr
    · rename_i p ep
      obtain ⟨x, rfl, i1⟩ := i.one
      obtain ⟨a, rfl⟩ := i1.ref_of fun z => by
        intro e
        subst e
        cases z with
        | non => exact n1 rfl
        | bl b => exact n2 b rfl
        | int j => exact n3 j rfl
        | str y => exact n4 y rfl
        | _ => simp [py] at ep
      exact .inr (.inr (.inr (.inr (.inl ⟨a, p, rfl, i1.dp R.sub _ _ _ ep, py_noDict _ _ ep, hr.1, hQ _ _ P H .refl R .v hr.2⟩))))
    · exact hr.elim
  · exact hr.elim
end
end DL

namespace DL
open PySem L2 PySem.Calls

section
open PySem.W PyProof.Rows PyProof.V PySem.Spec
variable {prog : Program} {w : World} {A : Around} {E : Value → Shared → Prop} {s : Shared} {x : Str} {t : Tok}
theorem hint_str {Q : Bool → Shared → Prop} (h : Q false s) : wpAny (model prog w) A (Builtin.List.listLengthHint (.str x t)) Q E s := by
  unfold Builtin.List.listLengthHint
  refine wpAny_bind (wpAny_specialOf (typeIs_str s x t) PySem.F.slot_str_len.lookup ?_)
  generalize hid : ("str.__len__" : String) = id0
  wp_delta
  rw [show splitId id0 = some ("str", "__len__") from by subst hid; decide +kernel]
  subst hid
  refine wpAny_bind (wpAny_isInstance (T := "str") (b := true) (typeIs_str s x t) isSubtype_str_str ?_)
  refine wpAny_ite_split (fun hab => absurd hab (by decide)) (fun _ => ?_)
  refine wpAny_ite_split (fun _ => ?_) (fun hab => absurd (by decide +kernel) hab)
  refine wpAny_bind (wpAny_typeOf (typeIs_str s x t) ?_)
  exact wpAny_pure h
theorem extend_str {R : Result → Shared → Prop} (hh : A.handled = none) (S : Addr) (res : Value) (c₀ : Nat) (hS : s.heap.get? S = some { cls := .type "list", data := .seq #[] c₀ }) (hn : x.cps.size ≤ sizeLine)
    (hR : ∀ h' tk acc' c', (∀ b o, b ≠ S → s.heap.get? b = some o → h'.get? b = some o) → h'.get? S = some { cls := .type "list", dict := none, data := .seq acc' c', slots := #[] } → ItemsOf (SignAt x) acc' x.cps.size → R (.ok (.ret res)) { s with heap := h', toks := tk }) :
    wpAny (model prog w) A.in1 (Builtin.List.listExtendWith (.ref S) (.str x t) res)
      (fun fin s' => match fin with | .done f => R (.ok f) s' | .again c' => c'.quiet = true ∧ codeAny (model prog w) A c' R s') (fun e s' => R (.error e) s') s := by
  unfold Builtin.List.listExtendWith
  refine wpAny_bind (wpAny_typeOf (T := "str") (typeIs_str s x t) ?_)
  have h1 : Builtin.List.listSameRef (.ref S) (.str x t) = false := rfl
  simp only [h1, show (Value.type "str" == Value.type "list") = false from by decide, show (Value.type "str" == Value.type "tuple") = false from by decide, Bool.or_false, Bool.false_eq_true, if_false]
  refine wpAny_bind (wpAny_pyIter_str fun oI St W st => ?_)
  have hS₁ := Heap.get?_push_of_some oI hS
  have hSf : S ∉ [s.heap.objs.size] := by
    simp only [List.mem_cons, List.not_mem_nil, or_false]
    exact Nat.ne_of_lt (Heap.lt_size hS)
  have key : ∀ (h : Heap) (c₁ tk : Nat), St 0 h → (∀ b o, b ≠ S → s.heap.get? b = some o → h.get? b = some o) →
      h.get? S = some { cls := .type "list", data := .seq #[] c₁ } → codeAny (model prog w) A (.builtin "list.extend.loop" ⟨[.ref S, .ref s.heap.objs.size, res], []⟩) R { s with heap := h, toks := tk } := by
    intro h c₁ tk hst hk hS₁
    refine codeAny_extend_loopS (W A.in1 hh).toS hn S hSf res x.cps.size 0 _ #[] c₁ rfl (Nat.zero_le _) hst hS₁ (ItemsOf.nil _) fun s' acc' c' hm hS' hacc => ?_
    rw [Moved.eq_with hm]
    refine hR s'.heap s'.toks acc' c' (fun b o hb e => hm.heap b o (fun hmem => ?_) (hk b o hb e)) hS' hacc
    rcases List.mem_cons.mp hmem with e' | hmem
    · exact hb e'
    · exact absurd (Heap.lt_size e) (by rw [List.mem_singleton.mp hmem]; exact Nat.lt_irrefl _)
  refine wpAny_bind (wpAny_holding (hint_str ?_))
  refine wpAny_ite_split (fun hab => absurd hab (by decide)) (fun _ => wpAny_pure ⟨plainId_quiet PySem.F.plain_extend_loop _, key _ c₀ _ st (fun b o _ e => Heap.get?_push_of_some _ e) hS₁⟩)
theorem list_str {Q : Value → Shared → Prop} (hh : A.handled = none) (hn : x.cps.size ≤ sizeLine)
    (hQ : ∀ h' tk acc' c', (∀ b o, s.heap.get? b = some o → h'.get? b = some o) → h'.get? s.heap.objs.size = some { cls := .type "list", dict := none, data := .seq acc' c', slots := #[] } → ItemsOf (SignAt x) acc' x.cps.size → Q (.ref s.heap.objs.size) { s with heap := h', toks := tk }) :
    wpAny (model prog w) A (call (.type "list") [.str x t]) Q E s := by
  refine callType_codes (Q₁ := fun obj s₁ => obj = .ref s.heap.objs.size ∧ s₁ = { s with heap := s.heap.push { cls := .type "list", data := .seq #[] } }) PySem.F.called_list (PySem.F.typeCall_list_1 _) PySem.F.entry_list_init
    (code_list_new _ ⟨rfl, rfl⟩) fun obj s₁ h₁ => ?_
  obtain ⟨rfl, rfl⟩ := h₁
  have hS : (s.heap.push { cls := .type "list", data := .seq #[] }).get? s.heap.objs.size = some { cls := .type "list", data := .seq #[] } := Heap.get?_push_size _ rfl
  refine ⟨⟨_, hS, rfl⟩, PySem.F.args_list_init_2 _ _, ?_⟩
  show wpAny _ _ (do let old ← Builtin.List.listItems (.ref s.heap.objs.size); Builtin.List.listUpdate (.ref s.heap.objs.size) (fun _ => #[]); letGo old.toList.reverse; Builtin.List.listExtendWith (.ref s.heap.objs.size) (.str x t) .none) _ _ _
  refine wpAny_bind ?_
  unfold Builtin.List.listItems
  refine wpAny_bind (wpAny_seqItems hS rfl (wpAny_pure ?_))
  show wpAny _ _ (updateSeq s.heap.objs.size (fun _ => #[]) >>= fun _ => letGo (#[] : Array Value).toList.reverse >>= fun _ => Builtin.List.listExtendWith (.ref s.heap.objs.size) (.str x t) .none) _ _ _
  refine wpAny_bind (wpAny_updateSeq hS rfl ?_)
  have hS₂ := Heap.get?_update_self (Obj.mapSeq (fun _ => (#[] : Array Value))) hS rfl
  refine wpAny_bind (wpAny_letGo ?_)
  refine extend_str (A := A.in1) hh _ .none _ hS₂ hn fun h' tk acc' c' hk hS' hacc => ⟨rfl, hQ h' tk acc' c' (fun b o e => ?_) hS' hacc⟩
  have nb : b ≠ s.heap.objs.size := Nat.ne_of_lt (Heap.lt_size e)
  exact hk b o nb ((Heap.get?_update_other _ _ (Ne.symm nb)).trans (Heap.get?_push_of_some _ e))
end
def signs (x : Str) : List Str := x.cps.toList.map fun c => ⟨#[c]⟩
section
variable {X : Cx}
theorem cListStr (hc : X.calm = true) : CallR X (.type "list") (fun xs H Q => ∃ x, xs = [.str x] ∧ x.length ≤ sizeLine ∧ ∀ l, H l = none → Q (.ref l) (upd H l (.lst ((signs x).map V.str)))) := by
  intro pins s σ H xs us Q I r h
  obtain ⟨x, rfl, hx, q⟩ := h
  obtain ⟨u, rfl, t, rfl⟩ := vals1 r
  have hsz : x.cps.size ≤ sizeLine := hx
  refine list_str (I.ok.hd hc) hsz fun h' tk acc' c' k e it => ?_
  have hv : Vals ((signs x).map V.str) acc'.toList := by
    have go : ∀ (cs : List Nat) (vs : List Value) (o : Nat), vs.length = cs.length → (∀ (j : Nat) v, vs[j]? = some v → ∃ c u, cs[j]? = some c ∧ v = .str ⟨#[c]⟩ u) → Vals (cs.map fun c => V.str ⟨#[c]⟩) vs := by
      intro cs
      induction cs with
      | nil => intro vs o hl _; cases vs with
        | nil => exact .nil
        | cons v vs => simp at hl
      | cons c cs ih =>
        intro vs o hl hv
        cases vs with
        | nil => simp at hl
        | cons v vs =>
          obtain ⟨c', u, e1, e2⟩ := hv 0 v rfl
          simp only [List.getElem?_cons_zero, Option.some.injEq] at e1
          subst e1
          exact .cons ⟨u, e2⟩ (ih vs 0 (by simpa using hl) fun j w hw => by simpa using hv (j + 1) w (by simpa using hw))
    have := go x.cps.toList acc'.toList 0 (by rw [Array.length_toList, Array.length_toList]; exact it.1) fun j v hv => by
      obtain ⟨c, u, e1, e2⟩ := it.2 j v (by rw [← Array.getElem?_toList]; exact hv)
      exact ⟨c, u, by rw [Array.getElem?_toList]; exact e1, e2⟩
    unfold signs
    rw [List.map_map]
    exact this
  have hl : ((signs x).map V.str).length ≤ sizeLine := by
    unfold signs
    simp only [List.length_map, Array.length_toList]
    exact hsz
  exact ⟨.ref s.heap.objs.size, _, I.laid (o := .lst ((signs x).map V.str)) k (Nat.le_refl _) ⟨hl, acc'.toList, c', hv, by rw [Array.toArray_toList]; exact e⟩, rfl, q _ (I.hok.fresh (Nat.le_refl _))⟩
end

section
variable {E : DC} {W : WX} {P P' H H' : Hp} {σ σ' : L2.St} {Γ Γ' : DS} {X : Cx}
@[simp] def dList : List D → (List D → Prop) → Prop := fun ds Q => match ds with
  | [.lst xs] => Q xs
  | [.kst xs] => Q xs
  | [.tup xs] => Q xs
  | [.v (.str x)] => x.length ≤ sizeLine ∧ Q ((signs x).map fun y => .v (.str y))
  | _ => False
def rListH (K : PySem.W.Frag) : List V → Hp → VK → Prop := fun xs H Q => (∃ p ys, xs = [.ref p] ∧ (SqL K H p ys ∨ SqT K H p ys) ∧ ∀ l, H l = none → Q (.ref l) (upd H l (.lst ys))) ∨ ∃ x, xs = [.str x] ∧ x.length ≤ sizeLine ∧ ∀ l, H l = none → Q (.ref l) (upd H l (.lst ((signs x).map V.str)))
theorem lk_list : LkF E (rListH E.K) dList := by
  intro P H σ Γ ds vs Q Qd R i hr hQ
  unfold dList at hr
  split at hr
  · exact .inl (lk_listOf P H σ Γ _ vs Q Qd R i hr hQ)
  · exact .inl (lk_listOf P H σ Γ _ vs Q Qd R i hr hQ)
  · exact .inl (lk_listOf P H σ Γ _ vs Q Qd R i hr hQ)
  · obtain ⟨x, rfl, i1⟩ := i.one
    rw [i1.v_inv]
    refine .inr ⟨_, rfl, hr.1, fun l hl => hQ _ l _ _ (Gr.fresh _ hl) (R.fresh _ hl) hl upd_same ?_ hr.2⟩
    have := IsA.of_atoms (K := E.K) (cl := E.cl) (P := P) ((signs ‹Str›).map V.str)
    rw [List.map_map] at this
    exact this
  · exact hr.elim
theorem cList (hK : X.K = E.K) (hc : X.calm = true) : CallR X (.type "list") (rListH E.K) := by rw [← hK]; exact call_list_of.or (cListStr hc)
@[simp] def dStr : RND := fun ds Q => match ds with
  | [.v (.int i)] => i.natAbs.log2 < 1920 ∧ Q (.v (.str (toString i)))
  | [.v (.str x)] => Q (.v (.str x))
  | _ => False
theorem lk_str : LkN E (fun xs H Q => (∃ i, xs = [.int i] ∧ i.natAbs.log2 < 1920 ∧ Q (.str (toString i)) H) ∨ ∃ a, xs = [.str a] ∧ Q (.str a) H) dStr := by
  intro P H σ Γ ds vs Q Qd R i hr hQ
  unfold dStr at hr
  split at hr
  · obtain ⟨x, rfl, i1⟩ := i.one; rw [i1.v_inv]; exact .inl ⟨_, rfl, hr.1, hQ _ _ P H .refl R .v hr.2⟩
  · obtain ⟨x, rfl, i1⟩ := i.one; rw [i1.v_inv]; exact .inr ⟨_, rfl, hQ _ _ P H .refl R .v hr⟩
  · exact hr.elim
theorem cStr : CallR X (.type "str") (fun xs H Q => (∃ i, xs = [.int i] ∧ i.natAbs.log2 < 1920 ∧ Q (.str (toString i)) H) ∨ ∃ a, xs = [.str a] ∧ Q (.str a) H) := call_str_int.or SkE.call_str_str

structure IsiC (K : PySem.W.Frag) (C : Addr) : Prop where
  cl : Cls K C
  ha : PySem.W.findIn K (.ref C) "__class__" = some (some (.builtin "object.__class__"))
  hn : PySem.W.specialIn K (.builtin "object.__class__") "__get__" = some (some (.builtin "getset_descriptor.__get__"))
  htk : PySem.W.takesIn K (.builtin "object.__class__") = some true
  hm : PySem.W.mroIn K C (.type "object") = some true
def tyD (cl : Nat → Addr) : D → Option Value
  | .v .non => some (.type "NoneType")
  | .v (.bl _) => some (.type "bool")
  | .v (.int _) => some (.type "int")
  | .v (.str _) => some (.type "str")
  | .lst _ => some (.type "list")
  | .tup _ => some (.type "tuple")
  | .dic _ _ => some (.type "dict")
  | .obj c _ _ => if c < 100 then some (.ref (cl c)) else none
  | _ => none
def clsD : D → Option Value
  | .v (.ty n) => some (.type n)
  | .v (.ref a) => some (.ref a)
  | _ => none
def dIsi (K : PySem.W.Frag) (cl : Nat → Addr) : RND := fun ds Q => match ds with
  | [d, c] => match tyD cl d, clsD c with
    | some t, some u => match PySem.W.kitOne K t u with
      | some b => Q (.v (.bl b))
      | none => False
    | _, _ => False
  | _ => False
theorem tyD_ok (hI : ∀ c, c < 100 → IsiC E.K (E.cl c)) (R : Rep E P H σ Γ) {d : D} {v : V} {t : Value} (i : Is E.K E.cl P d v) (e : tyD E.cl d = some t) : TyX E.K H v t := by
  unfold tyD at e
  split at e
  case h_8 =>
    rename_i c ns ws
    split at e
    · rename_i hlt
      cases e
      obtain ⟨a, xs, fs, rfl, ha, _⟩ := i.obj_inv
      exact .base (.ins (R.sub _ _ ha) (hI _ hlt).cl (hI _ hlt).ha (hI _ hlt).hn (hI _ hlt).htk (hI _ hlt).hm)
    · cases e
  all_goals try cases e
  · rw [i.v_inv]; exact .base .non
  · rw [i.v_inv]; exact .base (.bl _)
  · rw [i.v_inv]; exact .base (.int _)
  · rw [i.v_inv]; exact .base (.str _)
  · obtain ⟨a, xs, rfl, ha, _⟩ := i.lst_inv; exact .base (.lst (R.sub _ _ ha))
  · obtain ⟨a, xs, rfl, ha, _⟩ := i.tup_inv
    rcases sqT_mono R.sub ha with (h | ⟨o, h⟩) | ⟨o, its, n, h1, h2, _⟩
    · exact .base (.tup h)
    · exact .fTuple h
    · exact .kTuple h1 h2
  · obtain ⟨a, xs, rfl, ha, _⟩ := i.dic_inv; exact .base (.dK (R.sub _ _ ha))
theorem lk_isi (hI : ∀ c, c < 100 → IsiC E.K (E.cl c)) : LkN E (rIsi E.K) (dIsi E.K E.cl) := by
  intro P H σ Γ ds vs Q Qd R i hr hQ
  unfold dIsi at hr
  split at hr
  · split at hr
    · rename_i t u et eu
      split at hr
      · rename_i b eb
        obtain ⟨x, y, rfl, i1, i2⟩ := i.two
        refine ⟨x, y, t, u, b, rfl, ?_, tyD_ok hI R i1 et, eb, hQ _ _ P H .refl R .v hr⟩
        unfold clsD at eu
        split at eu <;> try cases eu
        · rw [i2.v_inv]; exact .ty _
        · rw [i2.v_inv]; exact .own _
      · exact hr.elim
    · exact hr.elim
  · exact hr.elim
theorem cIsi (hK : X.K = E.K) : CallR X (.builtin "isinstance") (rIsi E.K) := by rw [← hK]; exact call_isi
end
end DL

namespace DL
open PySem L2 PySem.Calls PySem.W

theorem law_core {P : Program} {w : World} {K : Frag} {mg mb : Str → Option Value} {k : Nat} {fa a : Addr} {fd : FuncData} {x : Str} {sp : Sp} {s : Shared} {vs : List Value} {n : Nat} (H : Hp)
    (KX : K.In s.heap) (hns : s.heap.Ns mainGlobals mg) (hb : s.heap.Ns builtinsNs mb) (hbb : ∀ y : Str, y ≠ "__name__" → mb y = bootBuiltins y) (hlim : s.heap.NoLimit) (hg : s.gens = #[])
    (ha : s.heap.get? a = some { cls := .type "list", data := .seq vs.toArray n }) (hr : Room k callerA)
    (F : ∀ base : Heap, K.In base → base.Ns mainGlobals mg → FnG P w K mg base k fa fd [x] sp) (hbind : ∀ (s : Shared) (u : Value), BindsTo s fd ⟨[u], []⟩ [(x, u)])
    (hO : ∀ b, H b = none ∨ ∃ o u, H b = some (.frz o u)) (hok : HOk P w H s.heap) (hA : ∀ b, H b ≠ none → b = a) (hK : H a ≠ none → K.lookup a = none)
    (hsp : sp [.ref a] H (fun v _ => v = .bl true) E0) :
    codeAny (model P w) callerA (.call (.ref fa) ⟨[.ref a], []⟩) (fun r s' => r = .ok (.ret (.bool true)) ∧ OldK s.heap s'.heap ∧ s'.os = s.os ∧ PyProof.Rows.AllBare s'.gens) s := by
  have free : ∀ {b : Addr} {o : Obj}, s.heap.get? b = some o → o.cls ≠ .type "list" → H b = none := fun {b o} e hc => by
    cases q : H b with
    | none => rfl
    | some u =>
      have : b = a := hA b (by rw [q]; simp)
      subst this
      rw [ha] at e; cases e
      exact absurd rfl hc
  have dictFree : ∀ {b : Addr} {o : Obj} {es : Array DictEntry} {ep : Nat}, s.heap.get? b = some o → o.data = .dict es ep → H b = none := fun {b o es ep} e d => by
    cases q : H b with
    | none => rfl
    | some u =>
      have : b = a := hA b (by rw [q]; simp)
      subst this
      rw [ha] at e; cases e
      have d' : Data.seq vs.toArray n = Data.dict es ep := d
      cases d'
  have ns : ∀ {b : Addr} {m : Str → Option Value}, s.heap.Ns b m → (hidT s.heap H).Ns b m := fun {b m} h => by
    obtain ⟨o, es, ep, e, d, r⟩ := h
    exact ⟨o, es, ep, hidT_get e (dictFree e d), d, r⟩
  have kin : K.In (hidT s.heap H) := fun b o e => hidT_get (KX b o e) (by
    cases q : H b with
    | none => rfl
    | some u =>
      have : b = a := hA b (by rw [q]; simp)
      subst this
      rw [hK (by rw [q]; simp)] at e; cases e)
  have lim : (hidT s.heap H).NoLimit := by
    obtain ⟨mc, h1, h2⟩ := hlim
    exact ⟨mc, ns h1, h2⟩
  have env : Env0 P w K mg (hidT s.heap H) callerA [] s H :=
    { frames := rfl, mod := ⟨kin, ns hns, ⟨mb, ns hb, hbb⟩, lim⟩, bs := fun b o e => of_hidT e, bsz := Nat.le_of_eq (hidT_size _ _), funs := trivial, frf := fun b hb => (List.not_mem_nil hb).elim, hok := hok, bare := .of_eq hg }
  refine codeAny_mono ((F _ kin (ns hns)).go callerA [] s H ⟨[.ref a], []⟩ [.ref a] [.ref a] _ E0 rfl hr env (hbind s (.ref a)) (.cons rfl .nil) hsp) fun c s' hc => ?_
  match c, hc with
  | .error e, q =>
    obtain ⟨_, _, _, _, _, _, _, _, _, _, _, _, z⟩ := q
    exact z.elim
  | .ok .next, q => exact (show False from q).elim
  | .ok .brk, q => exact (show False from q).elim
  | .ok .cont, q => exact (show False from q).elim
  | .ok (.ret u), q =>
    obtain ⟨v, H', os, bare, un, hok', rv, qv⟩ := q
    have ev : v = .bl true := qv
    subst ev
    obtain rfl : u = Value.bool true := rv
    refine ⟨rfl, OldK.of_keep fun b o e => ?_, os, bare⟩
    rcases hO b with z | ⟨ob, u, z⟩
    · exact un.keep b o e z (fun y => nomatch y) fun y => nomatch y
    · have z' := un.frzs b ob u z
      have e1 := (hok b _ z).1
      have e2 := (hok' b _ z').1
      rw [e] at e1; cases e1
      exact e2
theorem walkG {l : OpenLaw} {n k : Nat} {q : Program} {loose : List Str} {XP : (Str → Option Value) → Heap → Prop} {YP : World → Heap → Prop} {d : DefRec} {K : Params → Frag} {sp : World → Sp} {x : Str}
    (hn : l.most = some n) (hn2 : n ≤ sizeLine) (hdf : d.params.defaults = []) (hr : Room k callerA) (hY : ∀ (w : World) (h : Heap), YP w h → (K w.params).In h)
    (F : ∀ (w : World) (mg : Str → Option Value) (fa : Addr) (h : Heap), (K w.params).In h → h.Ns mainGlobals mg → mg d.name = some (.ref fa) →
      ∃ fd : FuncData, (∀ (s : Shared) (u : Value), BindsTo s fd ⟨[u], []⟩ [(x, u)]) ∧ ∀ base : Heap, (K w.params).In base → base.Ns mainGlobals mg → FnG l.prog w (K w.params) mg base k fa fd [x] (sp w))
    (hsp : ∀ (w : World) (H : Hp) (a : Addr) (ns : List Int), ns.length ≤ n → SqL (K w.params) H a (ns.map V.int) → sp w [.ref a] H (fun v _ => v = .bl true) E0) :
    WalkO q loose XP YP l.row.toRowW d [] (fun f vs => PySem.call f vs) := by
  refine Att.attach_call hn hdf fun w s₀ s₁ mg mb fa o pm cd doc a vs ns G Y ho hd hcd hmg hobj hints hlen hg => ?_
  have KX := hY w _ Y
  obtain ⟨fd, hbi, hF⟩ := F w mg fa _ KX G.T.g hmg
  have rv := vals_ints hints
  have hl : (ns.map V.int).length ≤ sizeLine := by rw [List.length_map]; omega
  cases hk : (K w.params).lookup a with
  | some o' =>
    have e := KX a o' hk
    rw [hobj] at e; cases e
    refine law_core (fun _ => none) KX G.T.g G.T.b G.T.builtins G.T.nolimit hg hobj hr hF hbi (fun _ => .inl rfl) (fun b u z => nomatch z) (fun b z => absurd rfl z) (fun z => absurd rfl z) (hsp w _ a ns hlen (.inr ⟨_, vs.toArray, _, hk, rfl, rfl, rfl, ?_, by simpa using rv⟩))
    have := rv.length
    rw [List.size_toArray]; omega
  | none =>
    refine law_core (fun b => if b = a then some (.frz { cls := .type "list", data := .seq vs.toArray } (.lst (ns.map V.int))) else none) KX G.T.g G.T.b G.T.builtins G.T.nolimit hg hobj hr hF hbi (fun b => ?_) (fun b u z => ?_) (fun b z => ?_) (fun _ => hk) (hsp w _ a ns hlen (.inl (.inr ⟨_, if_pos rfl⟩)))
    · by_cases e : b = a
      · exact .inr ⟨_, _, if_pos e⟩
      · exact .inl (if_neg e)
    · by_cases e : b = a
      · have z' := (if_pos e).symm.trans z
        cases z'
        subst e
        exact ⟨hobj, hl, vs, _, rv, hobj⟩
      · have z' := (if_neg e).symm.trans z
        cases z'
    · by_cases e : b = a
      · exact e
      · exact absurd (if_neg e) z
end DL


namespace DL
open PySem L2 PySem.Calls

section
variable {E : DC} {W : WX} {P P' H H' : Hp} {σ σ' : L2.St} {Γ Γ' : DS} {X : Cx}
variable {a b c e o : Expr} {es : List Expr} {ta tb tc te : DE} {pos p apos p1 p2 : Pos} {tas : DA} {x : Str}
theorem de_glob {v : V} (hg : Gl X x) (h : ∃ u, X.mg x = some u ∧ RelV v u) (hd : (x == ("__debug__" : Str)) = false := by decide) : PE X (.Name x pos) (up E W (dC v)) := let ⟨_, h1, h2⟩ := h; cDE (pe_glob hg h1 h2 hd)
@[simp] def dIsT (f : D → Option Bool) (te : DE) : DE := fun x Γ Q => te x Γ fun d Γ1 => match f d with
  | some b => Q (.v (.bl b)) Γ1
  | none => False
structure IsTab (K : PySem.W.Frag) (cl : Nat → Addr) (v : V) (u : Value) (f : D → Option Bool) : Prop where
  cv : ClsV v u
  ok : ∀ d b, f d = some b → ∃ t, tyD cl d = some t ∧ PySem.W.kitOne K t u = some b
theorem de_isT {v : V} {u : Value} {f : D → Option Bool} (T : IsTab E.K E.cl v u f) (hI : ∀ c, c < 100 → IsiC E.K (E.cl c)) (hK : X.K = E.K) (hg : Gl X "isinstance") (hm : X.mg "isinstance" = none) (ha : PE X a (up E W te)) (hc : PE X c (tC v))
    (he : starEach [a, c] X.env = (false, eval a X.env) :: starEach [c] X.env := by rfl) (hs : starEach [c] X.env = (false, eval c X.env) :: starEach [] X.env := by rfl) (hpl : (backTo pos (starEach [c] X.env)).any (·.1) = false := by rfl) : PE X (.Call (.Name "isinstance" p) [a, c] [] pos) (up E W (dIsT f te)) :=
  impE (pe_callB (cIsi hK) hg hm (by rfl) (pa_cons ha (pa_cons hc pa_nil hs) he) (by decide) (by decide) he hpl) fun σ H Q h => by
    obtain ⟨P, Γ, x, Qd, R, hT, hx, hQ⟩ := h
    refine ⟨P, Γ, x, _, R, hT, hx, fun d Γ1 v1 P1 H1 g1 R1 i1 h1 => ?_⟩
    split at h1
    · rename_i k ek
      obtain ⟨t, e1, e2⟩ := T.ok _ _ ek
      exact ⟨v1, v, t, u, k, rfl, T.cv, tyD_ok hI R1 i1 e1, e2, hQ _ _ _ _ _ g1 R1 .v h1⟩
    · exact h1.elim
theorem pe_tyn {T : String} (hg : Gl X x) (hm : X.mg x = none) (hv : bootBuiltins x = some (.type T)) (hn : x ≠ "__name__" := by decide) (hd : (x == ("__debug__" : Str)) = false := by decide) : PE X (.Name x pos) (tC (.ty T)) := pe_bltn hg hm hv rfl hn hd
theorem pe_own {C : Addr} (hg : Gl X x) (hm : X.mg x = some (.ref C)) (hd : (x == ("__debug__" : Str)) = false := by decide) : PE X (.Name x pos) (tC (.ref C)) := pe_glob hg hm rfl hd
@[simp] def isTab (n b i s l t d : Bool) (own : List Bool) : D → Option Bool
  | .v .non => some n
  | .v (.bl _) => some b
  | .v (.int _) => some i
  | .v (.str _) => some s
  | .lst _ => some l
  | .tup _ => some t
  | .dic _ _ => some d
  | .obj c _ _ => own[c]?
  | _ => none
theorem IsTab.of {K : PySem.W.Frag} {cl : Nat → Addr} {v : V} {u : Value} {n b i s l t d : Bool} {own : List Bool} (cv : ClsV v u) (h1 : PySem.W.kitOne K (.type "NoneType") u = some n) (h2 : PySem.W.kitOne K (.type "bool") u = some b) (h3 : PySem.W.kitOne K (.type "int") u = some i)
    (h4 : PySem.W.kitOne K (.type "str") u = some s) (h5 : PySem.W.kitOne K (.type "list") u = some l) (h6 : PySem.W.kitOne K (.type "tuple") u = some t) (h7 : PySem.W.kitOne K (.type "dict") u = some d) (hlen : own.length ≤ 100) (ho : ∀ c k, own[c]? = some k → PySem.W.kitOne K (.ref (cl c)) u = some k) : IsTab K cl v u (isTab n b i s l t d own) :=
  ⟨cv, fun dd k e => by
    unfold isTab at e
    split at e <;> try cases e
    · exact ⟨_, rfl, h1⟩
    · exact ⟨_, rfl, h2⟩
    · exact ⟨_, rfl, h3⟩
    · exact ⟨_, rfl, h4⟩
    · exact ⟨_, rfl, h5⟩
    · exact ⟨_, rfl, h6⟩
    · exact ⟨_, rfl, h7⟩
    · rename_i c _ _
      have hc : c < own.length := (List.getElem?_eq_some_iff.mp e).1
      exact ⟨_, if_pos (by omega), ho _ _ e⟩⟩
end
section
variable {K : PySem.W.Frag} {x qual : Str} {params : Arguments} {body : List Stmt} {scope : Scope} {dV kV doc pm cdv ct : Value} {an : Option Addr} {ps ks : List Str} {m n : Nat} {src : List Src}
theorem bnd_mk (h : ∀ fs us ws : List Value, fs.length = m → us.length = n → ws.length = ks.length → bindArgs (PySem.W.fnOf x qual params body scope dV kV doc pm an cdv ct) ⟨fs ++ us, ks.zip ws⟩ = pure (ps.zip (fs ++ pick .none src us ws))) : Bnd K (PySem.W.fnOf x qual params body scope dV kV doc pm an cdv ct) ps m n ks src :=
  ⟨fun s fs us ws _ a b c => .of_eq (h fs us ws a b c)⟩
theorem bnd_dflt {T : Addr} {o : Obj} {its : Array Value} {nn : Nat} (lT : K.lookup T = some o) (oT : o.data = .seq its nn) (h : ∀ fs us ws : List Value, fs.length = m → us.length = n → ws.length = ks.length → ∃ k, bindArgs (PySem.W.fnOf x qual params body scope (.ref T) kV doc pm an cdv ct) ⟨fs ++ us, ks.zip ws⟩ = seqItems? (.ref T) >>= k ∧ k (some its) = pure (ps.zip (fs ++ pick .none src us ws))) :
    Bnd K (PySem.W.fnOf x qual params body scope (.ref T) kV doc pm an cdv ct) ps m n ks src :=
  ⟨fun s fs us ws X a b c => by
    obtain ⟨k, e1, e2⟩ := h fs us ws a b c
    exact L2.BindsTo.of_looks fun M => by rw [e1]; exact looks_items X lT oT (.of_pure e2)⟩
theorem funx_mk {st : Stmt} {f : Addr} {oc : Value} {od an : Option Addr} {osl : Array (Option Value)} (l : K.lookup f = some ⟨oc, od, .func (PySem.W.fnOf x qual (defArgs st) (defBody st) (defScope st) dV kV doc pm an cdv ct), osl⟩)
    (c : PySem.W.codeIn K cdv qual = true) : FunX K x qual st f (PySem.W.fnOf x qual (defArgs st) (defBody st) (defScope st) dV kV doc pm an cdv ct) := ⟨⟨oc, od, dV, kV, doc, pm, an, cdv, ct, osl, rfl, l, c⟩⟩
def spLaw (K : PySem.W.Frag) (T : List NdefX.NTab) (n : Nat) : Sp := fun vs H Q _ => ∃ (a : Addr) (ns : List Int), vs = [.ref a] ∧ SqL K H a (ns.map V.int) ∧ NdefX.TabsN T H ∧ ns.length ≤ n ∧ ∀ H', Q (.bl true) H'
def cLaw (n : Nat) : Con := fun ds Q _ => ∃ ns : List Int, ds = [.kst (ns.map fun i => .v (.int i))] ∧ ns.length ≤ n ∧ Q (.v (.bl true))
theorem law_sp {P : Program} {w : World} {K : PySem.W.Frag} {mg : Str → Option Value} {base : Heap} {cl : Nat → Addr} {T : List NdefX.NTab} {f : Addr} {fd : FuncData} {k n : Nat} (F : FnG P w K mg base k f fd ps (spM K cl T (liftC (cLaw n)))) : FnG P w K mg base k f fd ps (spLaw K T n) :=
  F.imp fun vs H Q X ⟨a, ns, e, hS, hT, hl, q⟩ => by
    subst e
    have hS' : SqL K (fun b => match H b with | some (.tbl _) => none | o => o) a (ns.map V.int) := by
      rcases hS with (h | ⟨o, h⟩) | h
      · exact .inl (.inl (by simp only [h]))
      · exact .inl (.inr ⟨o, by simp only [h]⟩)
      · exact .inr h
    refine ⟨fun b => match H b with | some (.tbl _) => none | o => o, m0, [.kst (ns.map fun i => .v (.int i))], fun d _ => d = .v (.bl true), fun _ _ => False, fun b o z => ?_, fun b ps z => ?_, hT, fun b o z => (nomatch z), .cons (.kst hS' ?_) .nil, ⟨ns, rfl, hl, rfl⟩, fun d v m' P' H' _ i e => ?_, fun _ _ _ _ _ _ _ _ z => z.elim⟩
    · dsimp only at z
      split at z
      · cases z
      · exact z
    · dsimp only at z
      split at z
      · cases z
      · rename_i h; exact h ps z
    · have := IsA.of_atoms (K := K) (cl := cl) (P := fun b => match H b with | some (.tbl _) => none | o => o) (ns.map V.int)
      rw [List.map_map] at this
      exact this
    · subst e
      rw [i.v_inv]; exact q H'
end
end DL
namespace DL
open PySem L2 PySem.W
section
variable {K : PySem.W.Frag} {A C : Addr} {T : String} {b : Bool}
theorem kit_rt (h : mroIn K A (.type T) = some b) (m : kitMeta T = true) : kitOne K (.ref A) (.type T) = some b := by
  unfold kitOne
  rw [if_neg (by show ¬ (Value.ref A == Value.type T) = true; intro z; cases z)]
  unfold kitCls
  dsimp only
  rw [if_pos m]
  exact h
theorem kit_tr (h : mroIn K C (.type "object") = some true) (ht : typeIn K (.ref C) = some (.type "type")) (hm : (fastBuiltinMro T).map (·.contains (.ref C)) = some false) : kitOne K (.type T) (.ref C) = some false := by
  unfold kitOne
  rw [if_neg (by show ¬ (Value.type T == Value.ref C) = true; intro z; cases z)]
  unfold kitCls
  dsimp only
  have e : (clsIn K C).isSome = true := by
    unfold mroIn at h
    cases q : clsIn K C with
    | none => rw [q] at h; cases h
    | some _ => rfl
  rw [if_pos (by rw [e, ht]; rfl)]
  exact hm
theorem kit_same : kitOne K (.ref C) (.ref C) = some true := by
  unfold kitOne
  rw [if_pos (beq_self_eq_true _)]
theorem kit_rr (h : mroIn K A (.ref C) = some b) (ht : typeIn K (.ref C) = some (.type "type")) (hc : mroIn K C (.type "object") = some true) (ne : (A == C) = false) : kitOne K (.ref A) (.ref C) = some b := by
  unfold kitOne
  rw [if_neg (by intro z; have := beq_iff_eq.mp z; cases this; simp at ne)]
  unfold kitCls
  dsimp only
  have e : (clsIn K C).isSome = true := by
    unfold mroIn at hc
    cases q : clsIn K C with
    | none => rw [q] at hc; cases hc
    | some _ => rfl
  rw [if_pos (by rw [e, ht]; rfl)]
  exact h
end
end DL

namespace DL
open PySem L2
@[simp] theorem isN_non : isN (.v .non) = true := by simp [isN]
@[simp] theorem isN_str {x : Str} : isN (.v (.str x)) = false := by simp [isN]
@[simp] theorem isN_int {x : Int} : isN (.v (.int x)) = false := by simp [isN]
@[simp] theorem isN_bl {x : Bool} : isN (.v (.bl x)) = false := by simp [isN]
@[simp] theorem isN_tup {x : List D} : isN (.tup x) = false := by simp [isN]
@[simp] theorem isN_lst {x : List D} : isN (.lst x) = false := by simp [isN]
@[simp] theorem isN_obj {c : Nat} {n : List Str} {x : List D} : isN (.obj c n x) = false := by simp [isN]
@[simp] theorem eqb_ii {i j : Int} : eqb (.v (.int i)) (.v (.int j)) = some (decide (i = j)) := by
  simp only [eqb, scal, if_true]
  congr 1
  by_cases h : i = j
  · subst h; simp
  · simp [h]
@[simp] theorem eqb_ss {i j : Str} : eqb (.v (.str i)) (.v (.str j)) = some (decide (i = j)) := by
  simp only [eqb, scal, if_true]
  congr 1
  by_cases h : i = j
  · subst h; simp
  · simp [h]
theorem atI_nat {α : Type} (xs : List α) (k : Nat) {x : α} (h : xs[k]? = some x) : atI xs (k : Int) = some x := by
  unfold atI ixN
  have hl : k < xs.length := (List.getElem?_eq_some_iff.mp h).1
  rw [if_pos (by omega), if_pos (by omega)]
  simpa using h
@[simp] theorem atI_0 {α : Type} (x : α) (xs : List α) : atI (x :: xs) 0 = some x := atI_nat (x :: xs) 0 rfl
@[simp] theorem atI_1 {α : Type} (x y : α) (xs : List α) : atI (x :: y :: xs) 1 = some y := atI_nat (x :: y :: xs) 1 rfl
@[simp] theorem atI_2 {α : Type} (x y z : α) (xs : List α) : atI (x :: y :: z :: xs) 2 = some z := atI_nat (x :: y :: z :: xs) 2 rfl
@[simp] theorem atI_3 {α : Type} (x y z u : α) (xs : List α) : atI (x :: y :: z :: u :: xs) 3 = some u := atI_nat (x :: y :: z :: u :: xs) 3 rfl
theorem atI_in {α : Type} (xs : List α) (i : Int) (h0 : 0 ≤ i) (h1 : i < xs.length) : ∃ x, atI xs i = some x ∧ x ∈ xs := by
  obtain ⟨k, rfl⟩ := Int.eq_ofNat_of_zero_le h0
  have hk : k < xs.length := by exact_mod_cast h1
  exact ⟨xs[k], atI_nat xs k (List.getElem?_eq_getElem hk), List.getElem_mem hk⟩

def sml (x : Str) : Prop := ∀ c ∈ x.cps.toList, c < 128
theorem sml_append {x y : Str} (h : sml x) (k : sml y) : sml (x ++ y) := fun c hc => by
  rw [Str.cps_append, Array.toList_append, List.mem_append] at hc
  exact hc.elim (h c) (k c)
theorem sml_empty : sml Str.empty := fun c hc => by
  have : c ∈ ([] : List Nat) := hc
  cases this
@[simp] theorem Str_len_append (a b : Str) : (a ++ b).length = a.length + b.length := Str.length_append a b

theorem join_len (sep : Str) : ∀ ts : List Str, (Str.join sep ts).length ≤ (ts.map fun t => t.length + sep.length).sum
  | [] => by simp [Str.join, Str.empty, Str.length]
  | [x] => by simp [Str.join]
  | x :: y :: r => by
    have ih := join_len sep (y :: r)
    simp only [Str.join, Str_len_append, List.map_cons, List.sum_cons] at ih ⊢
    omega
mutual
def wt : PyData → Nat
  | .none => 4
  | .bool _ => 5
  | .int i => (((toString i : String) : Str)).length
  | .str x => 10 * x.length + 2
  | .list xs => wtA xs + 2
  | .tuple xs => wtA xs + 3
  | .dict _ => 0
def wtA : List PyData → Nat
  | [] => 0
  | x :: xs => wt x + 2 + wtA xs
end
mutual
def smlP : PyData → Prop
  | .none => True
  | .bool _ => True
  | .int i => i.natAbs.log2 < 1920
  | .str x => sml x
  | .list xs => smlA xs
  | .tuple xs => smlA xs
  | .dict _ => False
def smlA : List PyData → Prop
  | [] => True
  | x :: xs => smlP x ∧ smlA xs
end
mutual
theorem shown_le : ∀ d : PyData, smlP d → d.shown.length ≤ wt d ∧ d.showable = true
  | .none, _ => by simp only [PyData.shown, wt, PyData.showable]; exact ⟨by decide +kernel, trivial⟩
  | .bool b, _ => by cases b <;> (simp only [PyData.shown, wt, PyData.showable]; exact ⟨by decide +kernel, trivial⟩)
  | .int i, h => by simp only [smlP] at h; simp only [PyData.shown, wt, PyData.showable]; exact ⟨Nat.le_refl _, by simpa using h⟩
  | .str x, h => by
    simp only [smlP] at h; simp only [PyData.shown, wt, PyData.showable]
    exact ⟨StrLaws.reprText_len x fun c hc => Nat.lt_trans (h c hc) (by decide), trivial⟩
  | .list xs, h => by
    simp only [smlP] at h
    obtain ⟨h1, h2⟩ := shownA_le xs h
    have hj := join_len ", " (PyData.shownAll xs)
    rw [PyData.shown_list]
    simp only [wt, PyData.showable, Str_len_append]
    have e1 : ((("[" : String) : Str)).length = 1 := by decide +kernel
    have e2 : ((("]" : String) : Str)).length = 1 := by decide +kernel
    exact ⟨by omega, h2⟩
  | .tuple xs, h => by
    simp only [smlP] at h
    obtain ⟨h1, h2⟩ := shownA_le xs h
    have hj := join_len ", " (PyData.shownAll xs)
    rw [PyData.shown_tuple]
    simp only [wt, PyData.showable, Str_len_append]
    have e1 : ((("(" : String) : Str)).length = 1 := by decide +kernel
    have e2 : (((if xs.length == 1 then ",)" else ")" : String) : Str)).length ≤ 2 := by split <;> decide +kernel
    exact ⟨by omega, h2⟩
  | .dict _, h => by simp only [smlP] at h
theorem shownA_le : ∀ xs : List PyData, smlA xs → ((PyData.shownAll xs).map fun t => t.length + (((", " : String) : Str)).length).sum ≤ wtA xs ∧ PyData.showableAll xs = true
  | [], _ => by simp [PyData.shownAll, wtA, PyData.showableAll]
  | x :: xs, h => by
    simp only [smlA] at h
    obtain ⟨h1, h2⟩ := shown_le x h.1
    obtain ⟨h3, h4⟩ := shownA_le xs h.2
    have e1 : ((", " : String) : Str).length = 2 := by decide +kernel
    simp only [PyData.shownAll, wtA, PyData.showableAll, List.map_cons, List.sum_cons, h2, h4, e1] at h3 ⊢
    exact ⟨by omega, rfl⟩
end
end DL

namespace DL
open PySem L2
inductive B where
  | nil
  | node (c : Str) (l r : B)
namespace B
def size : B → Nat
  | nil => 0
  | node _ l r => 1 + size l + size r
def depth : B → Nat
  | nil => 0
  | node _ l r => 1 + max (depth l) (depth r)
def line : B → Str
  | nil => "-"
  | node c nil nil => c
  | node c l r => c ++ "(" ++ line l ++ "," ++ line r ++ ")"
def routes : B → List Str
  | nil => []
  | node _ l r => ([("" : Str)] ++ (routes l).map (("L" : Str) ++ ·)) ++ (routes r).map (("R" : Str) ++ ·)
def spots : B → Str → List Str
  | nil, _ => []
  | node _ l r, w => ([w] ++ spots l (w ++ "L")) ++ spots r (w ++ "R")
end B
def let1 (c : Str) : Prop := ∃ k : Nat, k < 26 ∧ c = ⟨#[97 + k]⟩
def B.ok : B → Prop
  | .nil => True
  | .node c l r => let1 c ∧ l.ok ∧ r.ok
def encB : B → D
  | .nil => .v .non
  | .node c l r => .tup [.v (.str c), encB l, encB r]
def tNames : List Str := ["letter", "first", "second", "line", "nodes", "depth", "routes"]
def encT : B → D
  | .nil => .v .non
  | .node c l r => .obj 0 tNames [.v (.str c), encT l, encT r, .v (.str (B.node c l r).line), .v (.int (B.node c l r).size), .v (.int (B.node c l r).depth), .tup ((B.node c l r).routes.map fun x => .v (.str x))]
@[simp] theorem ix_letter : idx "letter" tNames = some 0 := by decide +kernel
@[simp] theorem ixn_letter : idx "letter" [] = none := by decide +kernel
@[simp] theorem ix_first : idx "first" tNames = some 1 := by decide +kernel
@[simp] theorem ixn_first : idx "first" [("letter" : Str)] = none := by decide +kernel
@[simp] theorem ix_second : idx "second" tNames = some 2 := by decide +kernel
@[simp] theorem ixn_second : idx "second" [("letter" : Str), ("first" : Str)] = none := by decide +kernel
@[simp] theorem ix_line : idx "line" tNames = some 3 := by decide +kernel
@[simp] theorem ixn_line : idx "line" [("letter" : Str), ("first" : Str), ("second" : Str)] = none := by decide +kernel
@[simp] theorem ix_nodes : idx "nodes" tNames = some 4 := by decide +kernel
@[simp] theorem ixn_nodes : idx "nodes" [("letter" : Str), ("first" : Str), ("second" : Str), ("line" : Str)] = none := by decide +kernel
@[simp] theorem ix_depth : idx "depth" tNames = some 5 := by decide +kernel
@[simp] theorem ixn_depth : idx "depth" [("letter" : Str), ("first" : Str), ("second" : Str), ("line" : Str), ("nodes" : Str)] = none := by decide +kernel
@[simp] theorem ix_routes : idx "routes" tNames = some 6 := by decide +kernel
@[simp] theorem ixn_routes : idx "routes" [("letter" : Str), ("first" : Str), ("second" : Str), ("line" : Str), ("nodes" : Str), ("depth" : Str)] = none := by decide +kernel
theorem tNames_eq : ([("letter" : Str), "first", "second", "line", "nodes", "depth", "routes"]) = tNames := rfl
theorem let1.len {c : Str} (h : let1 c) : c.length = 1 := by obtain ⟨k, _, rfl⟩ := h; rfl
theorem let1.sml {c : Str} (h : let1 c) : sml c := by
  obtain ⟨k, hk, rfl⟩ := h
  intro x hx
  have : x ∈ [97 + k] := hx
  simp at this; omega
def low : Str := "abcdefghijklmnopqrstuvwxyz"
theorem low_has : ∀ k < 26, (!(Builtin.Str.occurrences low ⟨#[97 + k]⟩ 0 low.length 1).isEmpty) = true := by decide +kernel
theorem let1.inb {c : Str} (h : let1 c) : inb (.v (.str c)) (.v (.str low)) = some true := by
  obtain ⟨k, hk, rfl⟩ := h
  show some (!(Builtin.Str.occurrences low ⟨#[97 + k]⟩ 0 low.length 1).isEmpty) = some true
  rw [low_has k hk]
def B.isNil : B → Bool
  | .nil => true
  | _ => false
@[simp] theorem isNil_nil : B.nil.isNil = true := rfl
@[simp] theorem isNil_node {c : Str} {l r : B} : (B.node c l r).isNil = false := rfl
theorem isNil_eq {b : B} (h : b.isNil = true) : b = .nil := by cases b <;> first | rfl | cases h
@[simp] theorem encB_isN {b : B} : isN (encB b) = b.isNil := by cases b <;> simp [encB, isN]
@[simp] theorem encT_isN {b : B} : isN (encT b) = b.isNil := by cases b <;> simp [encT, isN]
@[simp] theorem e_len : (("" : String) : Str).length = 0 := by decide +kernel
@[simp] theorem l1_len : (("L" : String) : Str).length = 1 := by decide +kernel
@[simp] theorem r1_len : (("R" : String) : Str).length = 1 := by decide +kernel
@[simp] theorem op_len : (("(" : String) : Str).length = 1 := by decide +kernel
@[simp] theorem cl_len : ((")" : String) : Str).length = 1 := by decide +kernel
@[simp] theorem co_len : (("," : String) : Str).length = 1 := by decide +kernel
@[simp] theorem da_len : (("-" : String) : Str).length = 1 := by decide +kernel
theorem line_eq {c : Str} {l r : B} (h : ¬ (l = .nil ∧ r = .nil)) : (B.node c l r).line = c ++ "(" ++ l.line ++ "," ++ r.line ++ ")" := by
  cases l <;> cases r <;> first | rfl | exact absurd ⟨rfl, rfl⟩ h
theorem line_len : ∀ {b : B}, b.ok → b.line.length ≤ 5 * b.size + 1
  | .nil, _ => by simp only [B.line, B.size, da_len]; omega
  | .node c l r, h => by
    have h1 := line_len h.2.1
    have h2 := line_len h.2.2
    have hc := h.1.len
    by_cases e : l = .nil ∧ r = .nil
    · obtain ⟨rfl, rfl⟩ := e
      simp only [B.line, B.size]; omega
    · rw [line_eq e]
      simp only [Str_len_append, B.size, op_len, cl_len, co_len]; omega
theorem sml_lit {s : Str} (h : (s.cps.toList.all fun c => decide (c < 128)) = true) : sml s := fun c hc => by
  have := List.all_eq_true.mp h c hc
  simpa using this
theorem line_sml : ∀ {b : B}, b.ok → sml b.line
  | .nil, _ => sml_lit (by decide +kernel)
  | .node c l r, h => by
    have h1 := line_sml h.2.1
    have h2 := line_sml h.2.2
    have hc := h.1.sml
    by_cases e : l = .nil ∧ r = .nil
    · obtain ⟨rfl, rfl⟩ := e
      exact hc
    · rw [line_eq e]
      exact sml_append (sml_append (sml_append (sml_append (sml_append hc (sml_lit (by decide +kernel))) h1) (sml_lit (by decide +kernel))) h2) (sml_lit (by decide +kernel))
theorem depth_le : ∀ b : B, b.depth ≤ b.size
  | .nil => Nat.le_refl _
  | .node c l r => by have := depth_le l; have := depth_le r; simp only [B.depth, B.size]; omega
theorem routes_len : ∀ b : B, b.routes.length = b.size
  | .nil => rfl
  | .node c l r => by simp only [B.routes, B.size, List.length_append, List.length_map, routes_len l, routes_len r, List.length_cons, List.length_nil]
theorem routes_txt : ∀ b : B, ∀ x ∈ b.routes, x.length ≤ b.depth ∧ sml x
  | .nil, x, h => by simp [B.routes] at h
  | .node c l r, x, h => by
    simp only [B.routes, List.mem_append, List.mem_singleton, List.mem_map] at h
    rcases h with (rfl | ⟨y, hy, rfl⟩) | ⟨y, hy, rfl⟩
    · exact ⟨by rw [e_len]; exact Nat.zero_le _, sml_lit (by decide +kernel)⟩
    · have := routes_txt l y hy
      exact ⟨by simp only [Str_len_append, B.depth, l1_len]; omega, sml_append (sml_lit (by decide +kernel)) this.2⟩
    · have := routes_txt r y hy
      exact ⟨by simp only [Str_len_append, B.depth, r1_len]; omega, sml_append (sml_lit (by decide +kernel)) this.2⟩
theorem e_append (x : Str) : (("" : String) : Str) ++ x = x := by
  have : (("" : String) : Str) = Str.empty := by decide +kernel
  rw [this, Str.empty_append]
theorem append_e (x : Str) : x ++ (("" : String) : Str) = x := by
  have : (("" : String) : Str) = Str.empty := by decide +kernel
  rw [this, Str.append_empty]
theorem spots_eq : ∀ (b : B) (w : Str), b.spots w = b.routes.map (w ++ ·)
  | .nil, w => rfl
  | .node c l r, w => by
    simp only [B.spots, B.routes, spots_eq l, spots_eq r, List.map_append, List.map_map, List.map_cons, List.map_nil, append_e]
    congr 1
    · congr 1
      apply List.map_congr_left; intro x _; simp [Str.append_assoc]
    · apply List.map_congr_left; intro x _; simp [Str.append_assoc]
theorem spots_len (b : B) (w : Str) : (b.spots w).length = b.size := by rw [spots_eq, List.length_map, routes_len]
theorem spots_e (b : B) : b.spots "" = b.routes := by
  rw [spots_eq]
  conv => rhs; rw [← List.map_id b.routes]
  apply List.map_congr_left; intro x _; exact e_append x
end DL

namespace DL
open PySem L2
inductive Zip2 {α β : Type} (P : α → β → Prop) : List α → List β → Prop where
  | nil : Zip2 P [] []
  | cons {a b as bs} (h : P a b) (t : Zip2 P as bs) : Zip2 P (a :: as) (b :: bs)
theorem Zip2.length {α β : Type} {P : α → β → Prop} {as : List α} {bs : List β} (h : Zip2 P as bs) : bs.length = as.length := by
  induction h with
  | nil => rfl
  | cons _ _ ih => simp [ih]
theorem Zip2.all {α β : Type} {P : α → β → Prop} {R : β → Prop} {as : List α} {bs : List β} (h : Zip2 P as bs) (hr : ∀ a b, P a b → R b) : ∀ b ∈ bs, R b := by
  induction h with
  | nil => intro b hb; cases hb
  | cons h t ih =>
    intro b hb
    rcases List.mem_cons.mp hb with rfl | hb
    · exact hr _ _ h
    · exact ih b hb
theorem Zip2.map {α β : Type} {f : α → β} {as : List α} {bs : List β} (h : Zip2 (fun a b => b = f a) as bs) : bs = as.map f := by
  induction h with
  | nil => rfl
  | cons h t ih => rw [h, ih]; rfl
theorem lc_one {i : Nat} {te : DE} {vs : List Nat} {Γ : DS} {Q : List D → DS → Prop} (P : D → D → Prop) : ∀ (ds acc : List D), acc.length + ds.length < sizeLine →
    (∀ d ∈ ds, ∀ k : D → DS → Prop, (∀ y s, P d y → k y ⟨s, Γ.m⟩) → te (fun _ _ => False) ((wipeD Γ vs).set i (.d d)) k) → (∀ ys, Zip2 P ds ys → Q (acc ++ ys) Γ) → dLcL (dName i) dYes te vs Q ds acc Γ
  | [], acc, _, _, h => by have := h [] .nil; rw [List.append_nil] at this; unfold dLcL; exact this
  | d :: ds, acc, hl, he, h => by
    rw [List.length_cons] at hl
    unfold dLcL
    simp only [dName, dYes, if_true]
    refine he d (List.mem_cons_self ..) _ fun y s hy => ⟨by omega, ?_⟩
    refine lc_one P ds (acc ++ [y]) (by rw [List.length_append, List.length_singleton]; omega) (fun d' hd => he d' (List.mem_cons_of_mem _ hd)) fun ys hz => ?_
    rw [List.append_assoc]
    exact h (y :: ys) (.cons hy hz)
theorem lc_fun {i : Nat} {te : DE} {vs : List Nat} {Γ : DS} {Q : List D → DS → Prop} (f : D → D) (ds : List D) (hl : ds.length < sizeLine)
    (he : ∀ d ∈ ds, ∀ k : D → DS → Prop, (∀ s, k (f d) ⟨s, Γ.m⟩) → te (fun _ _ => False) ((wipeD Γ vs).set i (.d d)) k) (h : Q (ds.map f) Γ) : dLcL (dName i) dYes te vs Q ds [] Γ :=
  lc_one (fun d y => y = f d) ds [] (by simpa using hl) (fun d hd k hk => he d hd k (fun s => hk _ s rfl)) fun ys hz => by rw [hz.map]; simpa using h
theorem szl : sizeLine = 16777216 := sizeLine_eq
theorem rngD_mem {lo : Int} {n : Nat} {d : D} (h : d ∈ rngD lo n) : ∃ i : Int, d = .v (.int i) ∧ lo ≤ i ∧ i < lo + n := by
  unfold rngD at h
  obtain ⟨k, hk, rfl⟩ := List.mem_map.mp h
  have := List.mem_range.mp hk
  exact ⟨_, rfl, by omega, by omega⟩
theorem rngD_len {lo : Int} {n : Nat} : (rngD lo n).length = n := by unfold rngD; simp
@[simp] theorem strsD_strs : ∀ ys : List Str, strsD (ys.map fun x => D.v (.str x)) = some ys
  | [] => rfl
  | y :: ys => by simp only [List.map_cons, strsD, strsD_strs ys, Option.map_some]
@[simp] theorem intsD_ints : ∀ ys : List Int, intsD (ys.map fun x => D.v (.int x)) = some ys
  | [] => rfl
  | y :: ys => by simp only [List.map_cons, intsD, intsD_ints ys, Option.map_some]
@[simp] theorem blsD_bls : ∀ ys : List Bool, blsD (ys.map fun x => D.v (.bl x)) = some ys
  | [] => rfl
  | y :: ys => by simp only [List.map_cons, blsD, blsD_bls ys, Option.map_some]
end DL

namespace DL
open PySem L2

section
variable {E : DC} {W : WX} {P P' H H' : Hp} {σ σ' : L2.St} {Γ Γ' : DS} {X : Cx}
variable {a b c e o : Expr} {es : List Expr} {ta tb tc te to ti : DE} {pos p apos p1 p2 : Pos} {tas : DA}
def vw (m : Mm) : D → D
  | .v (.ref a) => match m a with
    | some (.lst ds) => .lst ds
    | some (.dic ks vs) => .dic ks vs
    | some (.ins c _ ns ws) => .obj c ns ws
    | _ => .v (.ref a)
  | d => d
@[simp] theorem vw_non {m : Mm} : vw m (.v .non) = .v .non := rfl
@[simp] theorem vw_int {m : Mm} {i : Int} : vw m (.v (.int i)) = .v (.int i) := rfl
@[simp] theorem vw_str {m : Mm} {x : Str} : vw m (.v (.str x)) = .v (.str x) := rfl
@[simp] theorem vw_bl {m : Mm} {x : Bool} : vw m (.v (.bl x)) = .v (.bl x) := rfl
@[simp] theorem vw_lst {m : Mm} {ds : List D} : vw m (.lst ds) = .lst ds := rfl
@[simp] theorem vw_kst {m : Mm} {ds : List D} : vw m (.kst ds) = .kst ds := rfl
@[simp] theorem vw_tup {m : Mm} {ds : List D} : vw m (.tup ds) = .tup ds := rfl
@[simp] theorem vw_dic {m : Mm} {ks : List Key} {ds : List D} : vw m (.dic ks ds) = .dic ks ds := rfl
@[simp] theorem vw_obj {m : Mm} {c : Nat} {ns : List Str} {ds : List D} : vw m (.obj c ns ds) = .obj c ns ds := rfl
theorem vw_own {m : Mm} {a : Addr} {ds : List D} (h : m a = some (.lst ds)) : vw m (.v (.ref a)) = .lst ds := by simp only [vw, h]
theorem vw_ins {m : Mm} {a dx : Addr} {c : Nat} {ns : List Str} {ws : List D} (h : m a = some (.ins c dx ns ws)) : vw m (.v (.ref a)) = .obj c ns ws := by simp only [vw, h]
def allP (P H : Hp) (m : Mm) : Hp := fun a => match m a with
  | some _ => H a
  | none => P a
theorem allP_sub (R : Rep E P H σ Γ) : Same P (allP P H Γ.m) ∧ Same (allP P H Γ.m) H := by
  refine ⟨fun a o e => ?_, fun a o e => ?_⟩
  · unfold allP; rw [R.mknown e]; exact e
  · unfold allP at e
    split at e
    · exact e
    · exact R.sub a o e
theorem Is.vw (R : Rep E P H σ Γ) {d : D} {v : V} (i : Is E.K E.cl P d v) : Is E.K E.cl (allP P H Γ.m) (vw Γ.m d) v := by
  have s := (allP_sub R).1
  unfold DL.vw
  split
  · rename_i a
    have ei := i.v_inv
    split
    · rename_i ds e
      obtain ⟨_, ⟨xs, h1, h2⟩, _⟩ := R.st a _ e
      rw [ei]
      exact .lst (by unfold allP; rw [e]; exact h1) (h2.mono s)
    · rename_i ks vs e
      obtain ⟨_, ⟨xs, h1, h2, h3⟩, _⟩ := R.st a _ e
      rw [ei]
      exact .dic (by unfold allP; rw [e]; exact h1) h2 (h3.mono s)
    · rename_i c dx ns ws e
      obtain ⟨_, ⟨fs, h1, h2, h3⟩, _⟩ := R.st a _ e
      rw [ei]
      exact .obj (by unfold allP; rw [e]; exact h1) h2 (h3.mono s)
    · exact i.mono s
  · exact i.mono s
def Lk2A (E : DC) (r : R2) (R : R2D) : Prop := ∀ (P H : Hp) (d1 d2 : D) (v1 v2 : V) (Q : VK) (Qd : D → Prop), Same P H → Is E.K E.cl P d1 v1 → Is E.K E.cl P d2 v2 → R d1 d2 Qd → (∀ z, Qd (.v z) → Q z H) → r v1 v2 H Q
@[simp] def dOpV (R : R2D) (ta tb : DE) : DE := fun x Γ Q => ta x Γ fun d1 Γ1 => tb x Γ1 fun d2 Γ2 => R (vw Γ2.m d1) (vw Γ2.m d2) fun d => Q d Γ2
theorem up_opV {r : R2} {R : R2D} (L : Lk2A E r R) {Q : VK} (h : up E W (dOpV R ta tb) σ H Q) : tOp r (up E W ta) (up E W tb) σ H Q := by
  obtain ⟨P, Γ, x, Qd, Rp, hT, hx, hQ⟩ := h
  refine ⟨P, Γ, x, _, Rp, hT, hx, fun d1 Γ1 v1 P1 H1 g1 R1 i1 h1 => ?_⟩
  refine ⟨P1, Γ1, x, _, R1, h1, hx, fun d2 Γ2 v2 P2 H2 g2 R2 i2 h2 => ?_⟩
  exact L _ H2 _ _ v1 v2 Q _ (allP_sub R2).2 ((i1.mono g2.p).vw R2) (i2.vw R2) h2 fun z q => hQ _ Γ2 z P2 H2 (g1.trans g2) R2 .v q
theorem de_cmpV {op : CmpOp} {r : R2} {R : R2D} (ho : OpR X (compareOp op) r) (L : Lk2A E r R) (ha : PE X a (up E W ta)) (hb : PE X b (up E W tb)) (hm : behindInMarks op b = false) : PE X (.Compare a [op] [b] pos) (up E W (dOpV R ta tb)) :=
  impE (pe_cmpR ho ha hb hm) fun _ _ _ h => up_opV L h
theorem dt_cmpV {op : CmpOp} {r : R2} {R : R2D} (ho : OpR X (compareOp op) r) (L : Lk2A E r R) (ha : PE X a (up E W ta)) (hb : PE X b (up E W tb)) (hm : behindInMarks op b = false) : PT X (.Compare a [op] [b] pos) (upT E W (dTest (dOpV R ta tb))) :=
  impT (pt_cmpR ho ha hb hm) fun _ _ _ h => up_opV L (up_test h)
theorem lka_eq : Lk2A E (fun x y H Q => rEq x y H Q ∨ rEqD E.K x y H Q) dEq := by
  intro P H d1 d2 v1 v2 Q Qd s i1 i2 hr hQ
  unfold dEq at hr
  split at hr
  · rename_i k ek
    rcases eqb_cases ek with ⟨x, y, rfl, rfl, hs, rfl⟩ | ⟨p, q, e1, e2, s1, s2, rfl⟩
    · rw [i1.v_inv, i2.v_inv]; exact .inl ⟨hs, hQ _ hr⟩
    · exact .inr ⟨p, q, i1.dp s _ _ _ e1, i2.dp s _ _ _ e2, s1, s2, hQ _ hr⟩
  · exact hr.elim
theorem lka_ne : Lk2A E (fun x y H Q => rNe x y H Q ∨ rNeD E.K x y H Q) dNe := by
  intro P H d1 d2 v1 v2 Q Qd s i1 i2 hr hQ
  unfold dNe at hr
  split at hr
  · rename_i k ek
    rcases eqb_cases ek with ⟨x, y, rfl, rfl, hs, rfl⟩ | ⟨p, q, e1, e2, s1, s2, rfl⟩
    · rw [i1.v_inv, i2.v_inv]; exact .inl ⟨hs, hQ _ hr⟩
    · exact .inr ⟨p, q, i1.dp s _ _ _ e1, i2.dp s _ _ _ e2, s1, s2, hQ _ hr⟩
  · exact hr.elim
theorem inbA {neg : Bool} {d1 d2 : D} {v1 v2 : V} {Q : VK} (s : Same P H) (i1 : Is E.K E.cl P d1 v1) (i2 : Is E.K E.cl P d2 v2) {k : Bool} (h : inb d1 d2 = some k) (hQ : Q (.bl (if neg then !k else k)) H) :
    (∃ i j, v1 = .str i ∧ v2 = .str j ∧ Q (.bl (if neg then !(!(Builtin.Str.occurrences j i 0 j.length 1).isEmpty) else !(Builtin.Str.occurrences j i 0 j.length 1).isEmpty)) H) ∨ rIn E.K neg v1 v2 H Q := by
  have key : ∀ {p : Addr} {xs : List V} {ds : List D} {x : V}, (SqL E.K P p xs ∨ SqT E.K P p xs) → IsA E.K E.cl P ds xs → v1 = x → v2 = .ref p → (match atms ds with
    | some xs => if flatV x && xs.all flatV then some (inV x xs) else none
    | none => none) = some k → rIn E.K neg v1 v2 H Q := fun {p xs ds x} hp hx e1 e2 h => by
    split at h
    · rename_i zs ez
      split at h
      · rename_i hf
        rw [Bool.and_eq_true] at hf
        cases h
        rw [atms_eq ez] at hx
        obtain rfl := hx.atoms
        rw [e1, e2]
        exact ⟨p, _, rfl, hp.elim (fun h => .inl (s.seq h)) (fun h => .inr (sqT_mono s h)), hf.1, hf.2, hQ⟩
      · cases h
    · cases h
  unfold inb at h
  split at h
  · rw [i1.v_inv, i2.v_inv]; cases h; exact .inl ⟨_, _, rfl, rfl, hQ⟩
  · obtain ⟨p, xs, e2, hp, hx⟩ := i2.lst_inv
    exact .inr (key (.inl (.of hp)) hx i1.v_inv e2 h)
  · obtain ⟨p, xs, e2, hp, hx⟩ := i2.kst_inv
    exact .inr (key (.inl hp) hx i1.v_inv e2 h)
  · obtain ⟨p, xs, e2, hp, hx⟩ := i2.tup_inv
    exact .inr (key (.inr hp) hx i1.v_inv e2 h)
  · cases h
theorem lka_in : Lk2A E (fun x y H Q => rInS x y H Q ∨ rIn E.K false x y H Q) dIn := by
  intro P H d1 d2 v1 v2 Q Qd s i1 i2 hr hQ
  unfold dIn at hr
  split at hr
  · rename_i k ek
    exact inbA (neg := false) s i1 i2 ek (hQ _ hr)
  · exact hr.elim
theorem lka_notIn : Lk2A E (fun x y H Q => rNotInS x y H Q ∨ rIn E.K true x y H Q) dNotIn := by
  intro P H d1 d2 v1 v2 Q Qd s i1 i2 hr hQ
  unfold dNotIn at hr
  split at hr
  · rename_i k ek
    exact inbA (neg := true) s i1 i2 ek (hQ _ hr)
  · exact hr.elim
@[simp] def dLenV (ta : DE) : DE := fun x Γ Q => ta x Γ fun d Γ1 => match vw Γ1.m d with
  | .lst xs => Q (.v (.int xs.length)) Γ1
  | _ => False
variable {x : Str}
theorem de_lenV (hK : X.K = E.K) (hg : Gl X "len") (hm : X.mg "len" = none) (ha : PE X e (up E W te)) (hs : starEach [e] X.env = (false, eval e X.env) :: starEach [] X.env := by rfl) (hpl : (backTo pos (starEach [] X.env)).any (·.1) = false := by rfl) : PE X (.Call (.Name "len" p) [e] [] pos) (up E W (dLenV te)) :=
  impE (pe_callB (cLen (E := E) hK) hg hm (by rfl) (pa_cons ha pa_nil hs) (by decide) (by decide) hs hpl) fun σ H Q h => by
    obtain ⟨P, Γ, x, Qd, R, hT, hx, hQ⟩ := h
    refine ⟨P, Γ, x, _, R, hT, hx, fun d Γ1 v P1 H1 g1 R1 i1 h1 => ?_⟩
    split at h1
    · rename_i xs ev
      have i2 := i1.vw R1
      rw [ev] at i2
      obtain ⟨q, ys, rfl, hp, hx⟩ := i2.lst_inv
      exact .inl ⟨q, ys, rfl, .inl (.of ((allP_sub R1).2 _ _ hp)), hQ _ _ _ _ _ g1 R1 .v (by rw [hx.length]; exact h1)⟩
    · exact h1.elim
@[simp] def dIxV (ta tb : DE) : DE := fun x Γ Q => ta x Γ fun d1 Γ1 => tb x Γ1 fun d2 Γ2 => match d1, d2 with
  | .v (.ref a), .v (.int i) => match Γ2.m a with
    | some (.lst ds) => match atI ds i with
      | some d => Q d Γ2
      | none => False
    | _ => False
  | _, _ => False
theorem de_ixV (hK : X.K = E.K) (ha : PE X a (up E W ta)) (hb : PE X b (up E W tb)) (hs : PlainIx b := by exact fun _ _ => rfl) : PE X (.Subscript a b pos) (up E W (dIxV ta tb)) :=
  impE (pe_ix (ixR hK) ha hb hs) fun σ H Q h => by
    obtain ⟨P, Γ, x, Qd, Rp, hT, hx, hQ⟩ := h
    refine ⟨P, Γ, x, _, Rp, hT, hx, fun d1 Γ1 v1 P1 H1 g1 R1 i1 h1 => ?_⟩
    refine ⟨P1, Γ1, x, _, R1, h1, hx, fun d2 Γ2 v2 P2 H2 g2 R2 i2 h2 => ?_⟩
    split at h2
    · split at h2
      · rename_i e
        split at h2
        · rename_i ea
          obtain ⟨_, ⟨xs, h3, h4⟩, _⟩ := R2.st _ _ e
          obtain ⟨v, q1, q2⟩ := h4.atI ea
          rw [i1.v_inv, i2.v_inv]
          exact .inl ⟨_, xs, _, v, rfl, rfl, .of h3, q1, hQ _ _ _ _ _ (g1.trans g2) R2 q2 h2⟩
        · exact h2.elim
      · exact h2.elim
    · exact h2.elim
@[simp] def dFrz (te : DE) : DE := fun x Γ Q => te x Γ fun d Γ1 => match d with
  | .v (.ref a) => match Γ1.m a with
    | some (.lst ds) => Q (.lst ds) (Γ1.put a none)
    | some (.dic ks ds) => Q (.dic ks ds) (Γ1.put a none)
    | some (.ins c _ ns ws) => Q (.obj c ns ws) (Γ1.put a none)
    | _ => False
  | d => Q d Γ1
theorem Rep.knowOwn (R : Rep E P H σ Γ) {a : Addr} {b : Ob} {o : HO} (h : Γ.m a = some b) (ho : H a = some o) (nt : ∀ ps, o ≠ .tbl ps) : Rep E (upd P a o) H σ (Γ.put a none) ∧ Gr σ Γ P H (Γ.put a none) (upd P a o) H := by
  obtain ⟨h1, _, h3⟩ := R.st a b h
  refine ⟨(R.drop a).know ho nt h1 h3 (if_pos rfl), same_upd h1, fun c u e => ?_, fun c u e _ _ => e, fun c u e => ⟨u, e⟩, fun c u e => ?_⟩
  · by_cases z : c = a
    · subst z; exact .inr (.inr ⟨b, h⟩)
    · rw [upd_ne z] at e; exact .inl ⟨u, e⟩
  · simp only [DS.put] at e
    by_cases z : c = a
    · rw [if_pos z] at e; cases e
    · rw [if_neg z] at e; exact .inl ⟨u, e⟩
theorem up_frz {Q : VK} (h : up E W (dFrz te) σ H Q) : up E W te σ H Q := by
  obtain ⟨P, Γ, x, Qd, R, hT, hx, hQ⟩ := h
  refine ⟨P, Γ, x, _, R, hT, hx, fun d Γ1 v P1 H1 g1 R1 i1 h1 => ?_⟩
  split at h1
  · split at h1
    · rename_i e
      obtain ⟨pa, ⟨xs, h3, h4⟩, _⟩ := R1.st _ _ e
      have q := R1.knowOwn e h3 (fun ps => nofun)
      rw [i1.v_inv]
      exact hQ _ _ _ _ _ (g1.trans q.2) q.1 (.lst upd_same (h4.mono (same_upd pa))) h1
    · rename_i e
      obtain ⟨pa, ⟨xs, h3, h4, h5⟩, _⟩ := R1.st _ _ e
      have q := R1.knowOwn e h3 (fun ps => nofun)
      rw [i1.v_inv]
      exact hQ _ _ _ _ _ (g1.trans q.2) q.1 (.dic upd_same h4 (h5.mono (same_upd pa))) h1
    · rename_i e
      obtain ⟨pa, ⟨fs, h3, h4, h5⟩, _⟩ := R1.st _ _ e
      have q := R1.knowOwn e h3 (fun ps => nofun)
      rw [i1.v_inv]
      exact hQ _ _ _ _ _ (g1.trans q.2) q.1 (.obj upd_same h4 (h5.mono (same_upd pa))) h1
    · exact h1.elim
  · exact hQ _ _ _ _ _ g1 R1 i1 h1
theorem de_frz (h : PE X e (up E W te)) : PE X e (up E W (dFrz te)) := impE h fun _ _ _ h => up_frz h

def lstAt (m : Mm) : D → Option (Addr × List D)
  | .v (.ref a) => match m a with
    | some (.lst ds) => some (a, ds)
    | _ => none
  | _ => none
theorem lstAt_own {m : Mm} {a : Addr} {ds : List D} (h : m a = some (.lst ds)) : lstAt m (.v (.ref a)) = some (a, ds) := by simp only [lstAt, h]
theorem lstAt_inv {m : Mm} {d : D} {a : Addr} {ds : List D} (h : lstAt m d = some (a, ds)) : d = .v (.ref a) ∧ m a = some (.lst ds) := by
  unfold lstAt at h
  split at h
  · split at h
    · rename_i e; cases h; exact ⟨rfl, e⟩
    · cases h
  · cases h
abbrev RL := List D → List D → (D → List D → Prop) → Prop
@[simp] def dLM (R : RL) (to : DE) (t : DA) : DE := fun x Γ Q => to x Γ fun od Γ1 => match lstAt Γ1.m od with
  | some (a, _) => t x Γ1 fun args Γ2 => match Γ2.m a with
    | some (.lst ds) => R ds args fun d ds' => Q d (Γ2.put a (some (.lst ds')))
    | _ => False
  | none => False
def LkL (E : DC) (r : V → List V → Hp → VK → Prop) (R : RL) : Prop := ∀ (P H : Hp) (a : Addr) (xs args : List V) (ds dargs : List D) (Q : VK) (Qd : D → List D → Prop), Same P H → H a = some (.lst xs) → IsA E.K E.cl P ds xs → IsA E.K E.cl P dargs args → R ds dargs Qd →
  (∀ d v ds' xs', Is E.K E.cl P d v → IsA E.K E.cl P ds' xs' → Qd d ds' → Q v (upd H a (.lst xs'))) → r (.ref a) args H Q
variable {id : String} {name : Str} {r : V → List V → Hp → VK → Prop} {RR : RL}
theorem up_lm {Q : VK} (L : LkL E r RR) (K : PySem.W.Frag) (h : up E W (dLM RR to tas) σ H Q) : tBM K "list" r (up E W to) (upA E W tas) σ H Q := by
  obtain ⟨P, Γ, x, Qd, R, hT, hx, hQ⟩ := h
  refine ⟨P, Γ, x, _, R, hT, hx, fun od Γ1 ov P1 H1 g1 R1 i1 h1 => ?_⟩
  split at h1
  · rename_i a ds0 el
    obtain ⟨rfl, e0⟩ := lstAt_inv el
    obtain ⟨_, ⟨zs, hz, _⟩, _⟩ := R1.st _ _ e0
    rw [i1.v_inv]
    refine ⟨.inl ⟨rfl, zs, .of hz⟩, P1, Γ1, x, _, R1, h1, hx, fun args Γ2 vs P2 H2 g2 R2 i2 h2 => ?_⟩
    split at h2
    · rename_i ds e
      obtain ⟨pa, ⟨xs, h3, h4⟩, _⟩ := R2.st _ _ e
      refine L P2 H2 a xs vs ds args Q _ R2.sub h3 h4 i2 h2 fun d v ds' xs' id ix q => ?_
      have q2 := R2.change (b' := .lst ds') (o' := .lst xs') e h3 (fun ps => nofun) (fun ps => nofun) ⟨_, upd_same, ix⟩
      exact hQ _ _ _ _ _ (g1.trans (g2.trans q2.2)) q2.1 id q
    · exact h2.elim
  · exact h1.elim
theorem de_lm (slot : Slot "list" name id) (hty : typeOf (.builtin id) = pure (.type "method_descriptor")) (hm : MtR X id r) (L : LkL E r RR) (ho : PE X o (up E W to)) (ha : PA X (e :: es) (upA E W tas))
    (hbase : attributeBase o name X.env (eval o X.env) = eval o X.env := by rfl)
    (hfew : ((backTo pos (starEach (e :: es) X.env)).all (fun x => !x.1) && (backToKw pos (keywordEach [] X.env)).all (fun x => x.1.isSome)
      && decide ((e :: es).length + ([] : List Keyword).length + (if ([] : List Keyword).isEmpty then 0 else 1) < 30)) = true := by rfl)
    (hline : (apos.endLine == pos.line) = true := by rfl) (hs : starEach (e :: es) X.env = (false, eval e X.env) :: starEach es X.env := by rfl) (hplain : (backTo pos (starEach es X.env)).any (·.1) = false := by rfl) :
    PE X (.Call (.Attribute o name apos) (e :: es) [] pos) (up E W (dLM RR to tas)) :=
  impE (pe_bm PySem.F.plainAttrs_list slot hty hm ho ha hbase hfew hline hs hplain) fun _ _ _ h => up_lm L _ h
theorem de_lm0 (slot : Slot "list" name id) (hty : typeOf (.builtin id) = pure (.type "method_descriptor")) (hm : MtR X id r) (L : LkL E r RR) (ho : PE X o (up E W to))
    (hbase : attributeBase o name X.env (eval o X.env) = eval o X.env := by rfl) (hline : (apos.endLine == pos.line) = true := by rfl) :
    PE X (.Call (.Attribute o name apos) [] [] pos) (up E W (dLM RR to dNil)) :=
  impE (pe_bm0 PySem.F.plainAttrs_list slot hty hm ho hbase hline) fun σ H Q h => by
    obtain ⟨P, Γ, x, Qd, R, hT, hx, hQ⟩ := up_lm (r := r) L X.K h
    exact ⟨P, Γ, x, Qd, R, hT, hx, fun d Γ' v P' H' g R' i z => by
      obtain ⟨q1, q2⟩ := hQ d Γ' v P' H' g R' i z
      exact ⟨q1, upA_nil q2⟩⟩
@[simp] def lApp : RL := fun ds args Q => match args with
  | [d] => ds.length < sizeLine ∧ Q (.v .non) (ds ++ [d])
  | _ => False
theorem lk_app : LkL E rAppend lApp := by
  intro P H a xs args ds dargs Q Qd s ha ix ia hr hQ
  unfold lApp at hr
  split at hr
  · obtain ⟨v, rfl, iv⟩ := ia.one
    exact ⟨a, xs, v, rfl, rfl, ha, by rw [ix.length]; exact hr.1, hQ _ _ _ _ .v (ix.append (.cons iv .nil)) hr.2⟩
  · exact hr.elim
@[simp] def lPop : RL := fun ds args Q => match args with
  | [] => match ds.getLast? with
    | some d => Q d ds.dropLast
    | none => False
  | _ => False
theorem IsA.dropLast {K : PySem.W.Frag} {cl : Nat → Addr} {ds : List D} {xs : List V} (h : IsA K cl P ds xs) : IsA K cl P ds.dropLast xs.dropLast := by
  rw [List.dropLast_eq_take, List.dropLast_eq_take, h.length]
  exact h.take _
theorem lk_pop : LkL E rPop lPop := by
  intro P H a xs args ds dargs Q Qd s ha ix ia hr hQ
  unfold lPop at hr
  split at hr
  · split at hr
    · rename_i d e
      obtain rfl := ia.nil_inv
      rw [List.getLast?_eq_getElem?] at e
      obtain ⟨v, q1, q2⟩ := ix.get e
      exact ⟨a, xs, v, rfl, rfl, ha, by rw [ix.length]; exact q1, hQ _ _ _ _ q2 ix.dropLast hr⟩
    · exact hr.elim
  · exact hr.elim
@[simp] def lExt : RL := fun ds args Q => match args with
  | [.lst es] => ds.length + es.length ≤ sizeLine ∧ Q (.v .non) (ds ++ es)
  | _ => False
theorem lk_ext : LkL E rExtend lExt := by
  intro P H a xs args ds dargs Q Qd s ha ix ia hr hQ
  unfold lExt at hr
  split at hr
  · obtain ⟨v, rfl, iv⟩ := ia.one
    obtain ⟨b, ys, rfl, hb, iy⟩ := iv.lst_inv
    exact ⟨a, b, xs, ys, rfl, rfl, ha, s _ _ hb, by rw [ix.length, iy.length]; exact hr.1, hQ _ _ _ _ .v (ix.append iy) hr.2⟩
  · exact hr.elim

@[simp] def dGSub (to ti : DE) : DG := fun d Γ Q => to (fun _ _ => False) Γ fun od Γ1 => match lstAt Γ1.m od with
  | some (a, _) => ti (fun _ _ => False) Γ1 fun id Γ2 => match id with
    | .v (.int k) => match Γ2.m a with
      | some (.lst ds) => match ixN ds.length k with
        | some j => Q (Γ2.put a (some (.lst (ds.set j d))))
        | none => False
      | _ => False
    | _ => False
  | none => False
theorem dg_sub {i : Expr} (ho : PE X o (up E W to)) (hi : PE X i (up E W ti))
    (ha : ∀ v, assign (.Subscript o i pos) X.env v = (do
      let ov ← holding [v] (eval o X.env)
      let iv ← holding [v, ov] (eval i X.env)
      standAt pos
      holding [v, ov, iv] (setItem ov iv v)
      release [v, ov, iv] []) := by intro _; rfl) : PG X (.Subscript o i pos) (upG E [] (dGSub to ti)) := ⟨fun pins s σ H v u Q I r h => by
  refine (pg_sub ho hi set_list ha).run pins s σ H v u Q I r ?_
  obtain ⟨P, Γ, d, Qd, R, hi', hT, hQ⟩ := h
  have XF : XL E W σ (fun _ _ => False) := fun e Γ' P' H' cls d _ _ z => z.elim
  refine ⟨P, Γ, _, _, R, hT, XF, fun od Γ1 ov P1 H1 g1 R1 i1 h1 => ?_⟩
  split at h1
  · rename_i a ds0 el
    obtain ⟨rfl, e0⟩ := lstAt_inv el
    refine ⟨P1, Γ1, _, _, R1, h1, XF, fun id Γ2 iv P2 H2 g2 R2 i2 h2 => ?_⟩
    split at h2
    · split at h2
      · rename_i ds e
        split at h2
        · rename_i j ej
          obtain ⟨pa, ⟨xs, h3, h4⟩, _⟩ := R2.st _ _ e
          have q2 := R2.change (b' := .lst (ds.set j d)) (o' := .lst (xs.set j v)) e h3 (fun ps => nofun) (fun ps => nofun) ⟨_, upd_same, h4.set j (hi'.mono (g1.p.trans g2.p))⟩
          exact ⟨a, xs, _, j, i1.v_inv, i2.v_inv, h3, by rw [h4.length]; exact ej, hQ _ _ _ _ (g1.trans (g2.trans q2.2)) q2.1 (fun _ _ => rfl) h2⟩
        · exact h2.elim
      · exact h2.elim
    · exact h2.elim
  · exact h1.elim⟩
end
end DL

namespace DL
open PySem L2 PySem.Calls

structure OexG (K : PySem.W.Frag) (C : Addr) : Prop where
  cls : ∃ (B nI iI : String) (bB bm : List Value) (nm qn : Str) (N : Addr) (bs : List Value) (sn : List Str) (sub : List Value) (ab : Bool) (col : Option Bool) (dd : Option Addr) (k0 k1 k2 k3 k5 : Option Value),
    ExcBaseFacts B nI iI bB ∧ (∀ Y : String, bm.contains (.type Y) = bB.contains (.type Y)) ∧ bm.contains (.type "object") = true ∧ (∀ z, refuseLoop z "__setattr__" (.ref C :: bm) = pure ()) ∧
      K.lookup C = some (excClassObj nm qn C N bs bm true sn sub ab col dd k0 k1 k2 k3 k5 nI)
  sa : PySem.W.findIn K (.ref C) "__setattr__" = some (some (.builtin "object.__setattr__"))
  exC : PySem.W.subIn K (.ref C) (.type "BaseException") = some true
  tyC : PySem.W.typeIn K (.ref C) = some (.type "type")
  kC : PySem.W.keepIn K (.ref C) = true

section
open Builtin Builtin.ObjectAttr PySem.W
variable {prog : Program} {w : World} {A : Around} {R : Result → Shared → Prop} {h0 : Heap} {gs : Array GenState} {dw : Drawn} {t0 : Nat} {o0 : OsState}
theorem gx_osa {K : Frag} {f : Str} {tk : Tok} {v : Value} {x C : Addr} {ox : Obj} {od : Option Obj} {cd : ClassData} (X : K.In h0) (I : InstAt h0 x ox C od) (hc : clsIn K C = some cd) (hob : cd.mro.contains (.type "object") = true) (hps : ∀ z, refuseLoop z "__setattr__" cd.mro = pure ())
    (hf : findIn K (.ref C) f = some none) (k : wpAny (model prog w) A.in1 (storeInOwnDict (.ref x) (.ref C) (.str f tk) f v false) (fun fin s' => match fin with | .done r => R (.ok r) s' | .again c' => c'.quiet = true ∧ codeAny (model prog w) A c' R s') (fun e s' => R (.error e) s') ⟨h0, gs, dw, t0, o0⟩) :
    codeAny (model prog w) A (.call (.builtin "object.__setattr__") ⟨[.ref x, .str f tk, v], []⟩) R ⟨h0, gs, dw, t0, o0⟩ := by
  have ne : cd.mro.isEmpty = false := by cases q : cd.mro with
    | nil => rw [q] at hob; simp at hob
    | cons _ _ => rfl
  have isO : Looks (model prog w) h0 (isInstance (.ref x) (.type "object")) true := I.type.andThen (looks_mroIn X (by unfold mroIn; rw [hc, Option.bind_some, if_neg (by rw [ne]; decide), hob]))
  have P := F.store_object
  refine codeAny_call_builtin P.slot.plain P.entry (@check_slot (model prog w) _ _ ⟨h0, gs, dw, t0, o0⟩ "object.__setattr__" "object" "__setattr__" (.ref x) [.str f tk, v] [] _ P.kind P.split isO (P.args (.ref x) (.str f tk) v) ?_)
  have mr : Looks (model prog w) h0 (mroOf (.ref C)) cd.mro := (looks_clsIn X hc).andThen .now
  have tk0 : Looks (model prog w) h0 (storeTaker? none) none := .now
  rw [osa_eq, refuse_eq]
  refine wpAny_bind (wpAny_bind (I.type.at (wpAny_bind (mr.at ?_)))); rw [hps]
  exact wpAny_pure (wpAny_bind (I.type.at (wpAny_bind ((looks_findIn X hf).at (wpAny_bind (tk0.at k))))))
theorem OexG.clsIn {K : Frag} {C : Addr} (T : OexG K C) : ∃ cd : ClassData, PySem.W.clsIn K C = some cd ∧ cd.mro.contains (.type "object") = true ∧ (∀ z, refuseLoop z "__setattr__" cd.mro = pure ()) ∧ cd.hasDict = true := by
  obtain ⟨B, nI, iI, bB, bm, nm, qn, N, bs, sn, sub, ab, col, dd, k0, k1, k2, k3, k5, F, h1, h2, h3, h4⟩ := T.cls
  refine ⟨{ name := nm, bases := bs, mro := .ref C :: bm, ns := N, qualname := qn, hasDict := true, slotNames := sn, subclasses := sub, abstract := ab, collection := col, hasDel := false }, by unfold PySem.W.clsIn; rw [h4] <;> rfl, ?_, h3, rfl⟩
  show (Value.ref C :: bm).contains (.type "object") = true
  rw [List.contains_cons, h2, Bool.or_true]
end
section
open PySem.W Builtin Builtin.ObjectAttr
variable {X : Cx} {pins : List (Addr × Obj)} {σ : L2.St} {H : Hp} {s : Shared} {a C dx : Addr} {f : Str} {y : V} {u : Value} {fs : List (Str × V)} {Q : Unit → Shared → Prop} {E : Value → Shared → Prop} {A : Around}
theorem gx_new (T : OexG X.K C) (I : Inv X pins σ H s) (e : H a = some (exo a C none)) (hno : findIn X.K (.ref C) f = some none) (ry : RelV y u)
    (k : ∀ dx s', H dx = none → dx ≠ a → Inv X pins σ (upd (upd H dx (exd dx [(f, y)])) a (exo a C (some dx))) s' → Q () s') : wpAny (model X.prog X.w) A (setAttr (.ref a) f u) Q E s := by
  obtain ⟨cd, c1, c2, c3, c4⟩ := T.clsIn
  obtain ⟨t1, oa⟩ := exo_at I.hok e
  obtain ⟨h0, gs, dw, t0, o0⟩ := s
  have J : InstAt h0 a { cls := .ref C, dict := none, data := .fields #[.ref t1, .none, .none, .none, .bool false, .none] } C none := ⟨oa, rfl, rfl, trivial⟩
  have az : a ≠ h0.objs.size := Nat.ne_of_lt (Heap.lt_size oa)
  have lk : Looks (model X.prog X.w) h0 (classData C) cd := looks_clsIn I.kIn c1
  refine set_plain I.kIn J T.sa (gx_osa I.kIn J c1 c2 c3 hno ?_)
  obtain ⟨nm, bs, mro, ns, qn, hd, sn, sb, ab, col, del⟩ := cd
  dsimp only at c4; subst c4
  unfold storeInOwnDict ownDictForStores
  repeat (first | with_reducible refine PySem.HandSPX.store_in_new ?_ ?_ | with_reducible refine wpAny_loadPart_at oa ?_ | with_reducible refine lk.at ?_ | wp_step)
  · exact ⟨_, #[], _, (Heap.get?_update_ne _ _ _ _ az.symm).trans (Heap.get?_push_at rfl rfl), rfl, fun z hz => absurd hz (by simp), fun _ => rfl⟩
  intro h' t' hn sb'
  have oa1 : (h0.push { cls := .type "dict", data := .dict #[] }).get? a = some _ := Heap.get?_push_of_some _ oa
  have keep : ∀ b o, b ≠ a → h0.get? b = some o → h'.get? b = some o := fun b o hb ho => (sb'.2 b (Nat.ne_of_lt (Heap.lt_size ho))).trans ((Heap.get?_update_ne _ _ _ _ hb).trans (Heap.get?_push_of_some _ ho))
  have oa2 := (sb'.2 a az).trans (Heap.get?_update_self _ oa1 rfl)
  have nd : H h0.objs.size = none := I.hok.fresh (Nat.le_refl _)
  have nz : ∀ {b : Addr} {o : Obj}, h0.get? b = some o → b ≠ h0.objs.size := fun q => Nat.ne_of_lt (Heap.lt_size q)
  have na : ∀ {b : Addr}, H b = none → b ≠ a := fun n z => by rw [z, e] at n; cases n
  have U : Un X.fs [] H (upd (upd H h0.objs.size (exd h0.objs.size [(f, y)])) a (exo a C (some h0.objs.size))) h0 h' := {
    keep := fun b o q n _ _ => keep b o (na n) q
    slot := fun b o q n _ _ => ⟨o.slots, keep b o (na n) q⟩
    free := fun b o q n _ => (upd_ne (na n)).trans ((upd_ne (nz q)).trans n)
    there := fun b o q _ => if hb : b = a then ⟨_, hb ▸ oa2⟩ else ⟨o, keep b o hb q⟩
    tups := fun b xs q => (upd_ne (at_ne e q exo_tup)).trans ((upd_ne (ne_of_none q nd)).trans q)
    frzs := fun b o v q => (upd_ne (at_ne e q exo_frz)).trans ((upd_ne (ne_of_none q nd)).trans q)
    tbls := fun b ps q => ⟨#[], by rw [upd_ne (at_ne e q exo_tbl), upd_ne (ne_of_none q nd), q, Array.append_empty]⟩ }
  refine k _ _ nd az.symm (I.un (t' := t') U fun b o q => ?_)
  by_cases hb : b = a
  · subst hb; rw [upd_same] at q; cases q; exact exo_ok oa2
  rw [upd_ne hb] at q
  by_cases hd : b = h0.objs.size
  · subst hd; rw [upd_same] at q; cases q; exact exd_ok hn (relO_put (fs := []) ry fun _ => trivial)
  rw [upd_ne hd] at q
  refine (I.hok b o q).stay (fun c v hc z => keep c v (hc.elim (fun w => w ▸ hb) fun w => at_ne e w exo_own) z) (fun c hc => ?_) fun c xs hc => ?_
  · exact (upd_ne (at_ne e hc exo_own)).trans ((upd_ne (ne_of_none hc nd)).trans hc)
  · exact (upd_ne (at_ne e hc exo_tup)).trans ((upd_ne (ne_of_none hc nd)).trans hc)
theorem gx_old (T : OexG X.K C) (I : Inv X pins σ H s) (e : H a = some (exo a C (some dx))) (ed : H dx = some (exd dx fs)) (hl : fs.length ≤ 900) (hno : findIn X.K (.ref C) f = some none) (ry : RelV y u)
    (k : ∀ s', Inv X pins σ (upd H dx (exd dx ((f, y) :: fs))) s' → Q () s') : wpAny (model X.prog X.w) A (setAttr (.ref a) f u) Q E s := by
  obtain ⟨cd, c1, c2, c3, c4⟩ := T.clsIn
  obtain ⟨t1, oa⟩ := exo_at I.hok e
  obtain ⟨mA, hns, rel⟩ := exd_at I.hok ed
  have wi := within_of rel
  obtain ⟨h0, gs, dw, t0, o0⟩ := s
  obtain ⟨oD, _, _, hD, _, _⟩ := hns.count wi
  have J : InstAt h0 a { cls := .ref C, dict := some dx, data := .fields #[.ref t1, .none, .none, .none, .bool false, .none] } C (some oD) := ⟨oa, rfl, rfl, hD⟩
  have lk : Looks (model X.prog X.w) h0 (classData C) cd := looks_clsIn I.kIn c1
  have hz : (fs.map (·.1)).length ≤ 1000 := by rw [List.length_map]; omega
  refine set_plain I.kIn J T.sa (gx_osa I.kIn J c1 c2 c3 hno ?_)
  obtain ⟨nm, bs, mro, ns, qn, hd, sn, sb, ab, col, del⟩ := cd
  dsimp only at c4; subst c4
  unfold storeInOwnDict ownDictForStores
  repeat (first | with_reducible refine PySem.OEX.store_in_old hns wi hz ?_ | with_reducible refine wpAny_loadPart_at oa ?_ | with_reducible refine lk.at ?_ | wp_step)
  intro h' t' hn sb'
  obtain ⟨o1, es1, ep1, hh, _⟩ := id hn
  exact k _ (I.write (t' := t') (x := dx) (e := dx) (o := exd dx ((f, y) :: fs)) (by rw [ed]; exact trivial) (.inl rfl) (fun b o hb ho => (sb'.2 b hb).trans ho) ⟨o1, hh⟩ (exd_ok hn (relO_put ry rel)))
def tXst (K : PySem.W.Frag) (f : Str) (to te : TE) : TS := fun D σ H => te σ H fun y H1 => to σ H1 fun x H2 => ∃ a C : Addr, x = .ref a ∧ OexG K C ∧ findIn K (.ref C) f = some none ∧
  ((H2 a = some (exo a C none) ∧ ∀ dx, H2 dx = none → dx ≠ a → D.nx σ (upd (upd H2 dx (exd dx [(f, y)])) a (exo a C (some dx)))) ∨
    ∃ (dx : Addr) (fs : List (Str × V)), H2 a = some (exo a C (some dx)) ∧ H2 dx = some (exd dx fs) ∧ fs.length ≤ 900 ∧ D.nx σ (upd H2 dx (exd dx ((f, y) :: fs))))
theorem ps_xst {o e : Expr} {to te : TE} {p' pos : Pos} (ho : PE X o to) (he : PE X e te) (hs : swapsWith e (some (.Attribute o f p')) pos.line X.env = pure false := by rfl) : PS X (.Assign [.Attribute o f p'] e pos) (tXst X.K f to te) := ⟨fun pins s σ H D I h =>
  plainObj_wpAny_Assign_Attribute (thn (he.run pins s σ H _ I h) fun v s1 ⟨y, H1, I1, r1, q1⟩ => thn (ho.run pins s1 σ H1 _ I1 q1) fun u s2 ⟨x, H2, I2, r2, a, C, ex, T, hno, q⟩ => by
    subst ex; obtain rfl : u = Value.ref a := r2
    rcases q with ⟨ea, q⟩ | ⟨dx, fs, ea, ed, hl, q⟩
    · exact gx_new T I2 ea hno r1 fun dx s' n ne J => ⟨σ, _, J, q dx n ne⟩
    · exact gx_old T I2 ea ed hl hno r1 fun s' J => ⟨σ, _, J, q⟩) hs⟩
def tMkG (C : Addr) (n m : Nat) (src : List Src) (sp : Sp) (t tk : TA) : L2.St → Hp → XK → Prop := fun σ H Q => t σ H fun vs H1 => tk σ H1 fun zs H2 => (vs.length = n ∧ zs.length = m ∧ n ≤ 1000) ∧ ∀ a, H2 a = none → sp (.ref a :: pick .non src vs zs) (upd H2 a (exo a C none))
  (fun v H3 => v = .non ∧ ∃ (d : Addr) (fs : List (Str × V)), H3 a = some (exo a C (some d)) ∧ H3 d = some (exd d fs) ∧ H2 d = none ∧ Q (.ref C) (some d) (upd (del H3 a) d (.xd fs))) E0
theorem pmk_g {x : Str} {fI : Addr} {k n : Nat} {fd : FuncData} {ps : List Str} {src : List Src} {sp : Sp} {e : Expr} {es : List Expr} {ta : TA} {p pos : Pos} (hG : X.A.guards = some []) (T : OexG X.K C) (iC : findIn X.K (.ref C) "__init__" = some (some (.ref fI))) (tI : typeIn X.K (.ref fI) = some (.type "function"))
    (F1 : FnG X.prog X.w X.K X.mg X.base k fI fd ps sp) (hr : Room (k + 1) X.A) (hb : Bnd X.K fd ps 1 n [] src) (hg : Gl X x) (hm : X.mg x = some (.ref C)) (ha : PA X (e :: es) ta)
    (hdb : (x == ("__debug__" : Str)) = false := by decide) (he : starEach (e :: es) X.env = (false, eval e X.env) :: starEach es X.env := by rfl) (hpl : (backTo pos (starEach es X.env)).any (·.1) = false := by rfl) :
    PMk X (.Call (.Name x p) (e :: es) [] pos) (tMkG C n 0 src sp ta tNil) := by
  intro pins s σ H Q I h
  obtain ⟨B, nI, iI, bB, bm, nm, qn, N, bs, sn, sub, ab, col, dd, k0, k1, k2, k3, k5, FB, hB, _, _, lkC⟩ := T.cls
  refine wpAny_Call_Name_kw (ld_glob I hg hm ?_ hdb)
  refine callWith_K (h₀ := X.base) I.ok.mod.kin T.kC (thn (ha.run pos pins s σ H _ I h) fun us s1 ⟨vs, H1, I1, r1, ⟨l1, l2, l3⟩, q1⟩ => ⟨I1.kIn, ?_⟩) he hpl
  show wpAny _ _ (call (.ref C) us) _ _ _
  obtain ⟨h0, gs, dw, t0, o0⟩ := s1
  have hq := q1 (h0.objs.size + 1) (I1.hok.fresh (Nat.le_succ _))
  have kk : ∀ b o, h0.get? b = some o → ((h0.push (kdv_tup us)).push (PySem.HandSPX.excO C h0.objs.size)).get? b = some o := fun b o z => Heap.get?_push_of_some _ (Heap.get?_push_of_some _ z)
  have hget : ((h0.push (kdv_tup us)).push (PySem.HandSPX.excO C h0.objs.size)).get? (h0.objs.size + 1) = some (PySem.HandSPX.excO C h0.objs.size) := by heap_get
  have I2 := I1.laid (t' := t0) (a := h0.objs.size + 1) (o := exo (h0.objs.size + 1) C none) (h' := (h0.push (kdv_tup us)).push (PySem.HandSPX.excO C h0.objs.size)) kk (Nat.le_succ _) (exo_ok hget)
  have lu : us.length = n := r1.length.symm.trans l1
  have hus : us.length ≤ sizeLine := by rw [lu, sizeLine_eq]; omega
  refine wpAny_call (PySem.HandSPX.call_own FB hB (I1.kIn _ _ lkC) (looks_findIn I1.kIn iC) (fun self => bind_fn I1.kIn self tI) hus
    (codeAny_mono (F1.go _ X.stack _ _ ⟨Value.ref (h0.objs.size + 1) :: us, []⟩ (Value.ref (h0.objs.size + 1) :: pick .none src us []) (V.ref (h0.objs.size + 1) :: pick .non src vs []) _ _ ?_ (hr.make C us []) (I2.env0.make C us []) (hb.to _ [_] us [] I2.kIn rfl lu rfl) (.cons rfl (Vals.pick r1 .nil src)) hq) fun r s' hq' => ?_))
  · show pushGuards (Code.guards (.builtin "type.__call__" ⟨.ref C :: us, []⟩)) X.A.guards = some []
    rw [hG, show Code.guards (.builtin "type.__call__" ⟨.ref C :: us, []⟩) = [] from rfl]; rfl
  · match r, hq' with
    | .error er, q =>
      obtain ⟨_, _, _, _, _, _, _, _, _, _, _, _, z⟩ := q
      exact z.elim
    | .ok (.ret u), ⟨v, H2, os2, bare2, un2, hok2, rv, ev, d, fs, ea, ed, hd1, q2⟩ =>
      subst ev; obtain ⟨h2, g2, d2, t2, os'⟩ := s'
      exact ⟨rv, mk_end (raises_own T.exC T.tyC) I1 (Nat.le_succ _) kk un2 hok2 os2 bare2 ea ed hd1 q2⟩
    | .ok .next, q => exact (show False from q).elim
    | .ok .brk, q => exact (show False from q).elim
    | .ok .cont, q => exact (show False from q).elim
end
end DL

namespace DL
open PySem L2 PySem.Calls

def spX1 (C : Addr) (f : Str) : Sp := fun vs H Q _ => ∃ a v, vs = [.ref a, v] ∧ H a = some (exo a C none) ∧ ∀ dx, H dx = none → dx ≠ a → Q .non (upd (upd H dx (exd dx [(f, v)])) a (exo a C (some dx)))
def spX2 (C : Addr) (f g : Str) : Sp := fun vs H Q _ => ∃ a v u, vs = [.ref a, v, u] ∧ H a = some (exo a C none) ∧ ∀ dx, H dx = none → dx ≠ a → Q .non (upd (upd (upd H dx (exd dx [(f, v)])) a (exo a C (some dx))) dx (exd dx [(g, u), (f, v)]))
section
variable {P : Program} {w : World} {K : PySem.W.Frag} {mg : Str → Option Value} {base : Heap} {qual : Str} {st : Stmt} {fI C : Addr} {fd : FuncData} {N ps : List Str}
theorem exi1 {f : Str} (F : FunX K "__init__" qual st fI fd) (S : FnScope N ps (defScope st)) (hps : ps.length = 2) (T : OexG K C) (hno : PySem.W.findIn K (.ref C) f = some none)
    (hb : ∀ (cdv : Value) (A : Around) (outer : List Env) (s : Shared) (H : Hp) (Ex : XK), PSs (cxOf (L2.CX P w) P w K mg base N qual (defScope st) fI cdv A outer s H Ex) (defBody st) (tXst K f (tVar 0) (tVar 1))) : FnG P w K mg base 1 fI fd ps (spX1 C f) := by
  refine FnG.body F S (fun vs H Q E ⟨a, v, e, _⟩ => by rw [e, hps]; rfl) fun cdv _ A outer s H vs Q Ex _ _ ⟨a, v, e, ha, q⟩ => ⟨_, hb cdv A outer s H Ex, ?_⟩
  subst e
  exact ⟨v, rfl, .ref a, rfl, a, C, rfl, T, hno, .inl ⟨ha, fun dx hd ne => q dx hd ne⟩⟩
theorem exi2 {f g : Str} (F : FunX K "__init__" qual st fI fd) (S : FnScope N ps (defScope st)) (hps : ps.length = 3) (T : OexG K C) (hno : PySem.W.findIn K (.ref C) f = some none) (hno2 : PySem.W.findIn K (.ref C) g = some none) {t : TS}
    (hb : ∀ (cdv : Value) (A : Around) (outer : List Env) (s : Shared) (H : Hp) (Ex : XK), PSs (cxOf (L2.CX P w) P w K mg base N qual (defScope st) fI cdv A outer s H Ex) (defBody st) (fun D => tXst K f (tVar 0) (tVar 1) { D with nx := tXst K g (tVar 0) (tVar 2) D })) : FnG P w K mg base 1 fI fd ps (spX2 C f g) := by
  refine FnG.body F S (fun vs H Q E ⟨a, v, u, e, _⟩ => by rw [e, hps]; rfl) fun cdv _ A outer s H vs Q Ex _ _ ⟨a, v, u, e, ha, q⟩ => ⟨_, hb cdv A outer s H Ex, ?_⟩
  subst e
  exact ⟨v, rfl, .ref a, rfl, a, C, rfl, T, hno, .inl ⟨ha, fun dx hd ne => ⟨u, rfl, .ref a, rfl, a, C, rfl, T, hno2, .inr ⟨dx, [(f, v)], upd_same, (upd_ne ne).trans upd_same, (by show 1 ≤ 900; decide), q dx hd ne⟩⟩⟩⟩
end
section
variable {E : DC} {W : WX} {P P' H H' : Hp} {σ σ' : L2.St} {Γ Γ' : DS} {X : Cx}
variable {a b c e o : Expr} {es : List Expr} {ta tb tc te to ti : DE} {pos p apos p1 p2 pos2 : Pos} {tas : DA}
@[simp] def dRaise (c : Nat) (ns : List Str) (t : DA) : DST := fun De Γ => t De.ex Γ fun ds Γ1 => ds.length = ns.length ∧ De.ex ⟨c, ns, ds⟩ Γ1
theorem upd_back1 {H : Hp} {a dx : Addr} {o1 o2 o3 o4 : HO} (ha : H a = none) (ne : dx ≠ a) : upd (del (upd (upd (upd H a o1) dx o2) a o3) a) dx o4 = upd H dx o4 := by
  funext b
  by_cases e1 : b = dx
  · subst e1; rw [upd_same, upd_same]
  · rw [upd_ne e1, upd_ne e1]
    by_cases e2 : b = a
    · subst e2; rw [del_same, ha]
    · rw [del_ne e2, upd_ne e2, upd_ne e1, upd_ne e2]
theorem upd_back2 {H : Hp} {a dx : Addr} {o1 o2 o3 o4 o5 : HO} (ha : H a = none) (ne : dx ≠ a) : upd (del (upd (upd (upd (upd H a o1) dx o2) a o3) dx o5) a) dx o4 = upd H dx o4 := by
  funext b
  by_cases e1 : b = dx
  · subst e1; rw [upd_same, upd_same]
  · rw [upd_ne e1, upd_ne e1]
    by_cases e2 : b = a
    · subst e2; rw [del_same, ha]
    · rw [del_ne e2, upd_ne e1, upd_ne e2, upd_ne e1, upd_ne e2]
variable {x : Str} {cn k : Nat} {fI : Addr} {fd : FuncData} {ps : List Str}
theorem d_raise1 {f : Str} {src : List Src} (hG : X.A.guards = some []) (hc : X.calm = true) (T : OexG X.K (E.cl (100 + cn))) (iC : PySem.W.findIn X.K (.ref (E.cl (100 + cn))) "__init__" = some (some (.ref fI))) (tI : PySem.W.typeIn X.K (.ref fI) = some (.type "function"))
    (F1 : FnG X.prog X.w X.K X.mg X.base k fI fd ps (spX1 (E.cl (100 + cn)) f)) (hr : Room (k + 1) X.A) (hb : Bnd X.K fd ps 1 1 [] [.p 0]) (hg : Gl X x) (hm : X.mg x = some (.ref (E.cl (100 + cn)))) (tk : Takes X W) (ha : PE X e (up E W te))
    (hdb : (x == ("__debug__" : Str)) = false := by decide) (he : starEach [e] X.env = (false, eval e X.env) :: starEach [] X.env := by rfl) (hpl : (backTo pos (starEach [] X.env)).any (·.1) = false := by rfl) :
    PS X (.Raise (some (.Call (.Name x p) [e] [] pos)) none pos2) (upS E W (dRaise cn [f] (dCons te dNil))) :=
  impS (ps_raise hc tk (pmk_g hG T iC tI F1 hr hb hg hm (da_cons ha da_nil he) hdb he hpl)) fun D σ H h => by
    obtain ⟨P, Γ, De, R, hT, L⟩ := h
    refine ⟨P, Γ, _, _, R, hT, L.ex σ, fun ds Γ1 vs P1 H1 g1 R1 i1 h1 => ?_⟩
    obtain ⟨hl, h1⟩ := h1
    cases ds with
    | nil => cases hl
    | cons d ds =>
      cases ds with
      | cons _ _ => cases hl
      | nil =>
        obtain ⟨v, rfl, iv⟩ := i1.one
        refine ⟨⟨rfl, rfl, by decide⟩, fun a ha => ⟨a, v, rfl, upd_same, fun dx hdx hne => ⟨rfl, dx, _, upd_same, (upd_ne hne).trans upd_same, (upd_ne hne).symm.trans hdx, ?_⟩⟩⟩
        have hd1 : H1 dx = none := (upd_ne hne).symm.trans hdx
        rw [upd_back1 ha hne]
        exact L.ex σ _ _ _ _ _ _ (R1.alloc (.xd [(f, v)]) hd1) ⟨rfl, .inr ⟨dx, _, rfl, upd_same, rfl, .cons (iv.mono (same_upd (R1.pnone hd1))) .nil⟩⟩ h1
@[simp] def dRaise2 (c : Nat) (ns : List Str) (t1 t2 : DE) : DST := fun De Γ => (dCons t1 (dCons t2 dNil)) De.ex Γ fun ds Γ1 => ds.length = 2 ∧ De.ex ⟨c, ns.reverse, ds.reverse⟩ Γ1
theorem d_raise2 {f g : Str} {e1 e2 : Expr} {t1 t2 : DE} {src : List Src} (hG : X.A.guards = some []) (hc : X.calm = true) (T : OexG X.K (E.cl (100 + cn))) (iC : PySem.W.findIn X.K (.ref (E.cl (100 + cn))) "__init__" = some (some (.ref fI))) (tI : PySem.W.typeIn X.K (.ref fI) = some (.type "function"))
    (F1 : FnG X.prog X.w X.K X.mg X.base k fI fd ps (spX2 (E.cl (100 + cn)) f g)) (hr : Room (k + 1) X.A) (hb : Bnd X.K fd ps 1 2 [] [.p 0, .p 1]) (hg : Gl X x) (hm : X.mg x = some (.ref (E.cl (100 + cn)))) (tk : Takes X W) (ha : PE X e1 (up E W t1)) (hb2 : PE X e2 (up E W t2))
    (hdb : (x == ("__debug__" : Str)) = false := by decide) (he : starEach [e1, e2] X.env = (false, eval e1 X.env) :: starEach [e2] X.env := by rfl) (hpl : (backTo pos (starEach [e2] X.env)).any (·.1) = false := by rfl) (he2 : starEach [e2] X.env = (false, eval e2 X.env) :: starEach [] X.env := by rfl) :
    PS X (.Raise (some (.Call (.Name x p) [e1, e2] [] pos)) none pos2) (upS E W (dRaise2 cn [f, g] t1 t2)) :=
  impS (ps_raise hc tk (pmk_g hG T iC tI F1 hr hb hg hm (da_cons ha (da_cons hb2 da_nil he2) he) hdb he hpl)) fun D σ H h => by
    obtain ⟨P, Γ, De, R, hT, L⟩ := h
    refine ⟨P, Γ, _, _, R, hT, L.ex σ, fun ds Γ1 vs P1 H1 g1 R1 i1 h1 => ?_⟩
    obtain ⟨hl, h1⟩ := h1
    match ds, hl with
    | [d1, d2], _ =>
      obtain ⟨v, u, rfl, iv, iu⟩ := i1.two
      refine ⟨⟨rfl, rfl, by decide⟩, fun a ha => ⟨a, v, u, rfl, upd_same, fun dx hdx hne => ⟨rfl, dx, _, (upd_ne (Ne.symm hne)).trans upd_same, upd_same, (upd_ne hne).symm.trans hdx, ?_⟩⟩⟩
      have hd1 : H1 dx = none := (upd_ne hne).symm.trans hdx
      rw [upd_back2 ha hne]
      have s := same_upd (o := .xd [(g, u), (f, v)]) (R1.pnone hd1)
      exact L.ex σ _ _ _ _ _ _ (R1.alloc (.xd [(g, u), (f, v)]) hd1) ⟨rfl, .inr ⟨dx, _, rfl, upd_same, rfl, .cons (iu.mono s) (.cons (iv.mono s) .nil)⟩⟩ h1

theorem Rep.reP (R : Rep E P H σ Γ) : Rep { E with P0 := P } P H σ Γ :=
  ⟨R.sub, R.nt, R.tb, Same.refl P, R.h0, R.dm, fun a o e => .inl ⟨o, e⟩, R.len, R.sl, R.st⟩
theorem Rep.unP (R : Rep E P H σ Γ) (R' : Rep { E with P0 := P } P' H' σ' Γ') : Rep E P' H' σ' Γ' :=
  ⟨R'.sub, R'.nt, R'.tb, R.p0.trans R'.p0, R'.h0, R'.dm, fun a o e => by
    rcases R'.new a o e with ⟨o', h⟩ | h
    · exact R.new a o' h
    · exact .inr h, R'.len, R'.sl, R'.st⟩
theorem Rep.setNo (R : Rep E P H σ Γ) (i : Nat) (x : Option V) : Rep E P H (σ.set i x) (Γ.set i .no) where
  sub := R.sub
  nt := R.nt
  tb := R.tb
  p0 := R.p0
  h0 := R.h0
  dm := R.dm
  new := R.new
  len := by rw [List.length_set, DS.set, List.length_set]; exact R.len
  sl := fun j s o e1 e2 => by
    simp only [DS.set] at e1
    by_cases e : i = j
    · subst e
      rw [List.getElem?_set] at e1
      simp only [if_true] at e1
      split at e1
      · cases e1; trivial
      · cases e1
    · rw [List.getElem?_set_ne e] at e1 e2
      exact R.sl j s o e1 e2
  st := R.st
@[simp] def deNo (De : DEnds) (i : Nat) : DEnds := { nx := fun Γ => De.nx (Γ.set i .no), rt := De.rt, ex := fun _ _ => False, bk := fun Γ => De.bk (Γ.set i .no), ct := fun Γ => De.ct (Γ.set i .no) }
@[simp] def dTryAs (cat : Nat → Option Bool) (i : Nat) (tb : DST) (ts : XD → Addr → DST) : DST := fun De Γ => tb { De with ex := fun e Γ' => match cat e.c with
  | some true => ∀ a, ts e a (deNo De i) (Γ'.set i (.d (.v (.ref a))))
  | some false => De.ex e Γ'
  | none => False } Γ
variable {body suite : List Stmt} {b₀ : Stmt} {np pos' : Pos} {n : Str} {cv : Value} {cat : Nat → Option Bool} {i : Nat} {tbs : DST} {tss : XD → Addr → DST}
abbrev noW : WX := fun _ _ _ _ => False
theorem d_tryAs (hs : X.stack = X.env :: X.outer) (hf : X.env.frame = some X.env.locals) (hN : X.N.Nodup) (hi : X.N[i]? = some n) (hln : X.env.kindOf n = some .local) (hc : Names X x cv) (tk : Takes X W)
    (hcat : ∀ c b, cat c = some b → PySem.W.exmOne X.K (.ref (E.cl (100 + c))) cv = some b)
    (hb : ∀ (P1 : Hp) (W' : WX) (pn : List (Addr × Obj)) (xe : Value → Shared → Prop), Takes (X.tr pn xe) W' → PassesOwn (model X.prog X.w) X.A X.env xe → Same E.P0 P1 → PSs (X.tr pn xe) body (upS { E with P0 := P1 } W' tbs))
    (hsu : ∀ (a : Addr) (oe : Obj) (cls : Value) (d : Option Addr) (pn : List (Addr × Obj)) (e : XD) (P1 : Hp), Zc cls d oe → (∃ vs, oe.data = .fields vs) → cat e.c = some true → XIs E.K E.cl P1 P1 e cls d → PSs (X.suite a ((a, oe) :: pn)) (b₀ :: suite) (upS { E with P0 := P1 } noW (tss e a))) :
    PS X (.Try body [.ExceptHandler (some (.Name x np)) (some n) (b₀ :: suite) pos'] [] [] pos) (upS E W (dTryAs cat i tbs tss)) :=
  impS (ps_try_as (i := i) (tb := fun W' D σ H => ∃ P1, Same E.P0 P1 ∧ upS { E with P0 := P1 } W' tbs D σ H) (ts := fun a cls d D σ H => ∃ e P1, cat e.c = some true ∧ XIs E.K E.cl P1 P1 e cls d ∧ upS { E with P0 := P1 } noW (tss e a) D σ H) hs hf hN hi hln hc tk
    (fun W' pn xe tk' po => ⟨fun pins s σ H D I ⟨P1, sp, h⟩ => (hb P1 W' pn xe tk' po sp).run pins s σ H D I h⟩)
    (fun a oe cls d pn hz hfd => ⟨fun pins s σ H D I ⟨e, P1, h1, h2, h⟩ => (hsu a oe cls d pn e P1 hz hfd h1 h2).run pins s σ H D I h⟩)) fun D σ H h => by
    obtain ⟨P, Γ, De, R, hT, L⟩ := h
    refine ⟨P, R.p0, P, Γ, _, R.reP, hT, ⟨fun σ' Γ' P' H' s R' q => L.nx _ _ _ _ s (R.unP R') q, fun d v σ' Γ' P' H' s R' i q => L.rt _ _ _ _ _ _ s (R.unP R') i q, fun σ' Γ' P' H' s R' q => L.bk _ _ _ _ s (R.unP R') q, fun σ' Γ' P' H' s R' q => L.ct _ _ _ _ s (R.unP R') q, fun σ' e Γ' P' H' cls d R' xi q => ?_⟩⟩
    have R1 := R.unP R'
    have sP : Same P P' := R'.p0
    obtain ⟨rfl, xi2⟩ := id xi
    dsimp only at q
    split at q
    · rename_i ec
      refine ⟨true, hcat _ _ ec, fun _ a ha => ⟨e, P', ec, xi, P', _, _, (R1.setD (i := i) (d := .v (.ref a)) .v).reP, q a, ?_⟩, (fun z => nomatch z)⟩
      have un : ∀ {P'' H'' : Hp} {σ'' : L2.St} {Γ'' : DS}, Rep { E with P0 := P' } P'' H'' σ'' Γ'' → Rep E P'' H'' σ'' Γ'' := fun R'' => R1.unP R''
      exact ⟨fun σ'' Γ'' P'' H'' s R'' q => L.nx _ _ _ _ (sP.trans s) ((un R'').setNo i none) q, fun d v σ'' Γ'' P'' H'' s R'' i q => L.rt _ _ _ _ _ _ (sP.trans s) (un R'') i q, fun σ'' Γ'' P'' H'' s R'' q => L.bk _ _ _ _ (sP.trans s) ((un R'').setNo i none) q, fun σ'' Γ'' P'' H'' s R'' q => L.ct _ _ _ _ (sP.trans s) ((un R'').setNo i none) q, fun _ _ _ _ _ _ _ _ _ z => z.elim⟩
    · rename_i ec
      exact ⟨false, hcat _ _ ec, (fun z => nomatch z), fun _ => L.ex σ' _ _ _ _ _ _ R1 xi q⟩
    · exact q.elim
@[simp] def dTryOnly (cat : Nat → Option Bool) (tb : DST) (ts : DST) : DST := fun De Γ => tb { De with ex := fun e Γ' => match cat e.c with
  | some true => ts { De with ex := fun _ _ => False } Γ'
  | some false => De.ex e Γ'
  | none => False } Γ
variable {tss1 : DST}
theorem d_tryOnly (hs : X.stack = X.env :: X.outer) (hf : X.env.frame = some X.env.locals) (hc : Names X x cv) (tk : Takes X W) (hcat : ∀ c b, cat c = some b → PySem.W.exmOne X.K (.ref (E.cl (100 + c))) cv = some b)
    (hb : ∀ (P1 : Hp) (W' : WX) (pn : List (Addr × Obj)) (xe : Value → Shared → Prop), Takes (X.tr pn xe) W' → PassesOwn (model X.prog X.w) X.A X.env xe → Same E.P0 P1 → PSs (X.tr pn xe) body (upS { E with P0 := P1 } W' tbs))
    (hsu : ∀ (a : Addr) (oe : Obj) (pn : List (Addr × Obj)) (P1 : Hp), PSs (X.suite a ((a, oe) :: pn)) (b₀ :: suite) (upS { E with P0 := P1 } noW tss1)) :
    PS X (.Try body [.ExceptHandler (some (.Name x np)) none (b₀ :: suite) pos'] [] [] pos) (upS E W (dTryOnly cat tbs tss1)) :=
  impS (ps_try_only (tb := fun W' D σ H => ∃ P1, Same E.P0 P1 ∧ upS { E with P0 := P1 } W' tbs D σ H) (ts := fun a cls d D σ H => ∃ P1, upS { E with P0 := P1 } noW tss1 D σ H) hs hf hc tk
    (fun W' pn xe tk' po => ⟨fun pins s σ H D I ⟨P1, sp, h⟩ => (hb P1 W' pn xe tk' po sp).run pins s σ H D I h⟩)
    (fun a oe cls d pn hz hfd => ⟨fun pins s σ H D I ⟨P1, h⟩ => (hsu a oe pn P1).run pins s σ H D I h⟩)) fun D σ H h => by
    obtain ⟨P, Γ, De, R, hT, L⟩ := h
    refine ⟨P, R.p0, P, Γ, _, R.reP, hT, ⟨fun σ' Γ' P' H' s R' q => L.nx _ _ _ _ s (R.unP R') q, fun d v σ' Γ' P' H' s R' i q => L.rt _ _ _ _ _ _ s (R.unP R') i q, fun σ' Γ' P' H' s R' q => L.bk _ _ _ _ s (R.unP R') q, fun σ' Γ' P' H' s R' q => L.ct _ _ _ _ s (R.unP R') q, fun σ' e Γ' P' H' cls d R' xi q => ?_⟩⟩
    have R1 := R.unP R'
    have sP : Same P P' := R'.p0
    obtain ⟨rfl, xi2⟩ := id xi
    dsimp only at q
    split at q
    · rename_i ec
      refine ⟨true, hcat _ _ ec, fun _ a ha => ⟨P', P', _, _, R1.reP, q, ?_⟩, (fun z => nomatch z)⟩
      exact ⟨fun σ'' Γ'' P'' H'' s R'' q => L.nx _ _ _ _ (sP.trans s) (R1.unP R'') q, fun d v σ'' Γ'' P'' H'' s R'' i q => L.rt _ _ _ _ _ _ (sP.trans s) (R1.unP R'') i q, fun σ'' Γ'' P'' H'' s R'' q => L.bk _ _ _ _ (sP.trans s) (R1.unP R'') q, fun σ'' Γ'' P'' H'' s R'' q => L.ct _ _ _ _ (sP.trans s) (R1.unP R'') q, fun _ _ _ _ _ _ _ _ _ z => z.elim⟩
    · rename_i ec
      exact ⟨false, hcat _ _ ec, (fun z => nomatch z), fun _ => L.ex σ' _ _ _ _ _ _ R1 xi q⟩
    · exact q.elim
@[simp] def dXf (e : XD) (a : Addr) (f : Str) (te : DE) : DE := fun x Γ Q => te x Γ fun d Γ1 => d = .v (.ref a) ∧ match idx f e.ns with
  | some k => match e.ds[k]? with
    | some w => Q w Γ1
    | none => False
  | none => False
theorem de_xf {a : Addr} {oe : Obj} {cls : Value} {d : Option Addr} {pn : List (Addr × Obj)} {ex : XD} {eo : Expr} {f : Str} (T : XfC X.K (E.cl (100 + ex.c))) (hno : PySem.W.findIn X.K (.ref (E.cl (100 + ex.c))) f = some none)
    (hz : Zc cls d oe) (hfd : ∃ vs, oe.data = .fields vs) (xi : XIs E.K E.cl E.P0 E.P0 ex cls d) (he : PE (X.suite a ((a, oe) :: pn)) eo (up E W te)) (hb : attributeBase eo f X.env (eval eo X.env) = eval eo X.env := by rfl) :
    PE (X.suite a ((a, oe) :: pn)) (.Attribute eo f pos) (up E W (dXf ex a f te)) := impE (pe_xf T hno hz hfd he hb) fun σ H Q h => by
  obtain ⟨P, Γ, x, Qd, R, hT, hx, hQ⟩ := h
  refine ⟨P, Γ, x, _, R, hT, hx, fun dd Γ1 v P1 H1 g1 R1 i1 h1 => ?_⟩
  obtain ⟨rfl, h1⟩ := h1
  split at h1
  · rename_i k ek
    split at h1
    · rename_i w ew
      obtain ⟨ecl, xi2⟩ := xi
      rcases xi2 with ⟨z, _⟩ | ⟨dx, fs, e1, e2, e3, e4⟩
      · rw [z] at ek; cases ek
      · obtain ⟨v, q1, q2⟩ := e4.get ew
        rw [← e3] at ek
        exact ⟨i1.v_inv, ecl, dx, fs, v, e1, R1.sub _ _ (R1.p0 _ _ e2), lookup_idx ek q1, hQ _ _ _ _ _ g1 R1 (q2.mono R1.p0) h1⟩
    · exact h1.elim
  · exact h1.elim
end
end DL

namespace DL
open PySem L2 PySem.Calls

section
open PySem.W Builtin
variable {prog : Program} {w : World} {A : Around} {E : Value → Shared → Prop} {s : Shared} {K : Frag} {x C f : Addr} {b tb : Value} {ox : Obj} {od : Option Obj}
theorem cmp_first {op : CmpOp} {Q : Value → Shared → Prop} (hu : A.units < cLine) (X : K.In s.heap) (I : InstAt s.heap x ox C od) (hb : Looks (model prog w) s.heap (typeOf b) tb) (hn : notFirst K C tb = true)
    (one : wpAny (model prog w) A (tryCompare (.ref x) (cmpInfo op).2.1 b) (fun r s' => ∃ v, r = some v ∧ Q v s') E s) : wpAny (model prog w) A (richCompare op (.ref x) b) Q E s := by
  have fin : ∀ {m : Sem Value}, wpAny (model prog w) A (tryCompare (.ref x) (cmpInfo op).2.1 b >>= fun r => match r with | some v => pure v | none => m) Q E s := fun {m} =>
    wpAny_bind (wpAny_mono one (fun r s' ⟨v, e, q⟩ => by subst e; exact wpAny_pure q) fun _ _ z => z)
  unfold richCompare; simp only [oneThing_ref]
  refine wpAny_holding (wpAny_bind (wpAny_cRoomFor hu (wpAny_bind (I.type.here (wpAny_bind (hb.here ?_))))))
  split
  · rename_i q
    have e : subIn K tb (.ref C) = some false := (Bool.or_eq_true_iff.mp hn).elim (fun e => by rw [beq_iff_eq.mp e] at q; simp at q) beq_iff_eq.mp
    refine wpAny_bind ((looks_subIn X e).here ?_); simp only [Bool.false_eq_true, if_false]
    exact wpAny_bind (wpAny_mono one (fun r s' ⟨v, e, q⟩ => by subst e; exact wpAny_pure q) fun _ _ z => z)
  · refine wpAny_bind (wpAny_pure ?_); simp only [Bool.false_eq_true, if_false]
    exact wpAny_bind (wpAny_mono one (fun r s' ⟨v, e, q⟩ => by subst e; exact wpAny_pure q) fun _ _ z => z)
theorem bound_slot {M : Model} {name : Str} {id T : String} {args : List Value} {Q : Option Value → Shared → Prop} (X : K.In s.heap) (I : InstAt s.heap x ox C od) (hs : findIn K (.ref C) name = some (some (.builtin id))) (S : Slot T name id)
    (h : wpAny M A (call (.builtin id) (.ref x :: args)) (fun v => Q (some v)) E s) : wpAny M A (callSpecialIfBound? (.ref x) name args) Q E s := by
  have fin : wpAny M A (call (.builtin id) ([.ref x] ++ args) >>= fun v => pure (some v)) Q E s := wpAny_bind (wpAny_mono h (fun _ _ z => wpAny_pure z) fun _ _ z => z)
  simp only [callSpecialIfBound?, bindSpecialIfBound?]
  refine wpAny_holding (wpAny_bind (wpAny_bind (wpAny_bind (I.type.here ((looks_findIn X hs).here ?_)))))
  simp only [S.bind]
  refine wpAny_bind (wpAny_askSetting (wpAny_ite ?_))
  split
  · exact wpAny_bind (wpAny_pure (wpAny_pure fin))
  · exact wpAny_tryCatch (wpAny_bind (wpAny_pure (wpAny_pure fin)))
theorem eq_own {Q : Value → Shared → Prop} (hu : A.units < cLine) (X : K.In s.heap) (I : InstAt s.heap x ox C od) (hb : Looks (model prog w) s.heap (typeOf b) tb) (hn : notFirst K C tb = true) (hs : findIn K (.ref C) "__eq__" = some (some (.ref f))) (hf : isFn K (.ref f) = true)
    (h : wpAny (model prog w) A (call (.ref f) [.ref x, b]) (fun v s' => ∃ r, v = .bool r ∧ Q (.bool r) s') E s) : wpAny (model prog w) A (richCompare .Eq (.ref x) b) Q E s := by
  refine cmp_first (op := .Eq) hu X I hb hn ?_
  unfold tryCompare
  refine wpAny_bind (ifBound_K X I hs hf (wpAny_mono h (fun v s' ⟨r, e, q⟩ => ?_) fun _ _ z => z))
  subst e
  exact wpAny_pure ⟨_, rfl, q⟩
theorem ne_own {Q : Value → Shared → Prop} (hu : A.units + 1 < cLine) (X : K.In s.heap) (I : InstAt s.heap x ox C od) (hb : Looks (model prog w) s.heap (typeOf b) tb) (hn : notFirst K C tb = true) (hs : findIn K (.ref C) "__eq__" = some (some (.ref f))) (hf : isFn K (.ref f) = true)
    (hne : findIn K (.ref C) "__ne__" = some (some (.builtin "object.__ne__"))) (hmo : mroIn K C (.type "object") = some true)
    (h : wpAny (model prog w) A.in1 (call (.ref f) [.ref x, b]) (fun v s' => ∃ r, v = .bool r ∧ Q (.bool (!r)) s') E s) : wpAny (model prog w) A (richCompare .NotEq (.ref x) b) Q E s := by
  refine cmp_first (op := .NotEq) (Nat.lt_of_succ_lt hu) X I hb hn ?_
  unfold tryCompare
  have isO : Looks (model prog w) s.heap (isInstance (.ref x) (.type "object")) true := I.type.andThen (looks_mroIn X hmo)
  refine wpAny_bind (bound_slot X I hne F.slot_range_iterator_ne (wpAny_call (codeAny_call_builtin F.slot_range_iterator_ne.plain F.cmpEntry_ne
    (@check_slot (model prog w) _ _ s "object.__ne__" "object" "__ne__" (.ref x) [b] [] _ F.cmpKind_ne F.cmpSplit_ne isO (F.cmpArgs_ne _ _) ?_))))
  show wpAny _ A.in1 (Builtin.«object.__ne__» ⟨[.ref x, b], []⟩) _ _ s
  unfold Builtin.«object.__ne__»
  refine wpAny_bind (wpAny_pure ?_)
  refine wpAny_bind (m := cRoomFor _ _) (wpAny_cRoomFor hu ?_)
  refine wpAny_bind (m := callSpecialIfBound? (.ref x) (Str.ofString "__eq__") [b]) (ifBound_K X I hs hf (wpAny_mono h (fun v s' ⟨r, e, q⟩ => ?_) fun _ _ z => z))
  subst e
  refine wpAny_bind (wpAny_truthy_bool ?_)
  exact wpAny_pure (wpAny_pure ⟨_, rfl, q⟩)
end

section
open PySem.SeqAt AutoSeq1 MeetsSeq MeetsSeq2 MeetsSeq3 SeqRoads2
variable {prog : Program} {w : World} {A : Around} {R : Result → Shared → Prop} {E : Value → Shared → Prop}
def LAt (l : Addr) (xs : Array Value) (s : Shared) : Prop := ∃ n : Nat, s.heap.get? l = some { cls := .type "list", data := .seq xs n }
def TwoL (l b : Addr) (N : Nat) (s : Shared) : Prop := ∃ xs ys, LAt l xs s ∧ LAt b ys s ∧ xs.size = N ∧ ys.size = N
def TurnB (prog : Program) (w : World) (A : Around) (E : Value → Shared → Prop) (l b : Addr) (I : Nat → Shared → Prop) (Qf : Shared → Prop) : Prop :=
  ∀ i s xs ys, I i s → LAt l xs s → LAt b ys s → ∀ (h1 : i < xs.size) (h2 : i < ys.size), wpAny (model prog w) A.in1 (eqBool xs[i] ys[i]) (fun r s' => if r = true then I (i + 1) s' else Qf s') E s
theorem loop_b (l b : Addr) (N : Nat) (I : Nat → Shared → Prop) (Qf : Shared → Prop) (st : ∀ i s, I i s → TwoL l b N s) (sf : ∀ s, Qf s → TwoL l b N s) (turn : TurnB prog w A (fun e s' => R (.error e) s') l b I Qf)
    (yes : ∀ s, I N s → R (.ok (.ret (.bool true))) s) (no : ∀ s, Qf s → R (.ok (.ret (.bool false))) s) (k : Nat) :
    ∀ i : Nat, N - i = k → i ≤ N → ∀ s, I i s → wpAny (model prog w) A.in1 (Builtin.«list.__eq__.loop» ⟨[.ref l, .ref b, rawInt i, rawInt 2], []⟩) (GQ.FinOf prog w A R) (fun e s' => R (.error e) s') s := by
  induction k with
  | zero =>
    intro i hk hi s h
    obtain ⟨xs, ys, ⟨n, g1⟩, ⟨n2, g2⟩, z1, z2⟩ := st _ _ h
    have ei : i = N := by omega
    have q := yes s (ei ▸ h)
    obtain ⟨h0, gs, dw, t0, o0⟩ := s
    wp_walk using wpAny_loadPart' g1, wpAny_loadPart' g2
    rw [show xs[((i : Nat) : Int).toNat]? = none by simp; omega, show ys[((i : Nat) : Int).toNat]? = none by simp; omega]
    wp_walk using wpAny_loadPart' g1, wpAny_loadPart' g2
    show R (.ok (.ret (.bool (xs.size == ys.size)))) _
    rw [z1, z2]; simpa using q
  | succ k ih =>
    intro i hk hi s h
    obtain ⟨xs, ys, ⟨n, g1⟩, ⟨n2, g2⟩, z1, z2⟩ := st _ _ h
    have l1 : i < xs.size := by omega
    have l2 : i < ys.size := by omega
    have tt := turn i s xs ys h ⟨n, g1⟩ ⟨n2, g2⟩ l1 l2
    obtain ⟨h0, gs, dw, t0, o0⟩ := s
    wp_walk using wpAny_loadPart' g1, wpAny_loadPart' g2
    have a1 : xs[((i : Nat) : Int).toNat]? = some xs[i] := by simp [l1]
    have a2 : ys[((i : Nat) : Int).toNat]? = some ys[i] := by simp [l2]
    rw [a1, a2]
    refine wpAny_bind (wpAny_mono tt (fun r s2 q => ?_) fun _ _ z => z)
    cases r with
    | true =>
      rw [if_pos rfl] at q
      have rcu := ih (i + 1) (by omega) (by omega) s2 q
      obtain ⟨h2, gs2, dw2, t2, o2⟩ := s2
      wp_walk
      rw [show ((i : Int) + 1) = ((i + 1 : Nat) : Int) by omega]
      exact ⟨plainId_quiet plain_eq_loop _, codeAny_builtin entry_eq_loop (by rw [Around.under_plainId plain_eq_loop _]; exact rcu)⟩
    | false =>
      rw [if_neg Bool.false_ne_true] at q
      obtain ⟨xs', ys', ⟨m, g3⟩, ⟨m2, g4⟩, z3, z4⟩ := sf _ q
      have b1 : xs'[((i : Nat) : Int).toNat]? = some (xs'[i]'(by omega)) := by simp [show i < xs'.size by omega]
      have b2 : ys'[((i : Nat) : Int).toNat]? = some (ys'[i]'(by omega)) := by simp [show i < ys'.size by omega]
      have q2 := no s2 q
      obtain ⟨h2, gs2, dw2, t2, o2⟩ := s2
      wp_walk using wpAny_loadPart' g3, wpAny_loadPart' g4
      rw [b1, b2]
      wp_walk
      simpa using q2
theorem rc_listB {l b : Addr} {N : Nat} {Q : Value → Shared → Prop} (hu : A.units < cLine) (I : Nat → Shared → Prop) (Qf : Shared → Prop) (st : ∀ i s, I i s → TwoL l b N s) (sf : ∀ s, Qf s → TwoL l b N s) (turn : TurnB prog w A E l b I Qf)
    (yes : ∀ s, I N s → Q (.bool true) s) (no : ∀ s, Qf s → Q (.bool false) s) {s : Shared} (h : I 0 s) : wpAny (model prog w) A (richCompare .Eq (.ref l) (.ref b)) Q E s := by
  obtain ⟨xs, ys, ⟨n, g1⟩, ⟨n2, g2⟩, z1, z2⟩ := st _ _ h
  refine wpAny_richCompare_same_room (op := .Eq) ⟨_, g1, rfl⟩ ⟨_, g2, rfl⟩ F.slot_list_eq (GQ.call_here F.slot_list_eq ⟨_, g1, rfl⟩ F.entry_list_eq (F.args_list_eq_2 _ _) ?_) hu
  have rcu := loop_b (A := A) (R := wants (fun v s' => v ≠ .notImplemented ∧ Q v s') E) l b N I Qf st sf turn (fun s q => ⟨(fun z => nomatch z), yes s q⟩) (fun s q => ⟨(fun z => nomatch z), no s q⟩) _ 0 rfl (Nat.zero_le _) s h
  obtain ⟨h0, gs, dw, t0, o0⟩ := s
  have f3 := AutoSeq1.sub_list_list
  have hne : ¬ (xs.size != ys.size) = true := by simp [z1, z2]
  wp_walk using wpAny_loadPart' g1, wpAny_loadPart' g2
  exact ⟨plainId_quiet plain_eq_loop _, codeAny_builtin entry_eq_loop (by rw [Around.under_plainId plain_eq_loop _]; exact rcu)⟩
theorem rc_listD {l b : Addr} {xs ys : Array Value} {Q : Value → Shared → Prop} {s : Shared} (hu : A.units < cLine) (hsz : xs.size ≠ ys.size) (h1 : LAt l xs s) (h2 : LAt b ys s) (q : Q (.bool false) s) : wpAny (model prog w) A (richCompare .Eq (.ref l) (.ref b)) Q E s := by
  obtain ⟨n, g1⟩ := h1
  obtain ⟨n2, g2⟩ := h2
  refine wpAny_richCompare_same_room (op := .Eq) ⟨_, g1, rfl⟩ ⟨_, g2, rfl⟩ F.slot_list_eq (GQ.call_here F.slot_list_eq ⟨_, g1, rfl⟩ F.entry_list_eq (F.args_list_eq_2 _ _) ?_) hu
  obtain ⟨h0, gs, dw, t0, o0⟩ := s
  have f3 := AutoSeq1.sub_list_list
  have hne : (xs.size != ys.size) = true := by simp [hsz]
  wp_walk using wpAny_loadPart' g1, wpAny_loadPart' g2
  exact ⟨(fun z => nomatch z), q⟩
end
section
variable {E : DC} {W : WX} {P P' H H' : Hp} {σ σ' : L2.St} {Γ Γ' : DS} {X : Cx}
variable {a b c e o : Expr} {es : List Expr} {ta tb tc te to ti : DE} {pos p apos p1 p2 pos2 : Pos} {tas : DA}
variable {k : Nat} {f : Addr} {fd : FuncData} {ps : List Str} {C : ConM} {cs : List Nat}
def isTy : D → Bool
  | .v .non => true
  | .v (.bl _) => true
  | .v (.int _) => true
  | .v (.str _) => true
  | .lst _ => true
  | .tup _ => true
  | .dic _ _ => true
  | .obj c _ _ => decide (c < 100)
  | _ => false
theorem isTy_some {cl : Nat → Addr} {d : D} (h : isTy d = true) : ∃ t, tyD cl d = some t := by
  unfold isTy at h
  split at h <;> first | exact ⟨_, rfl⟩ | cases h | exact ⟨_, if_pos (of_decide_eq_true h)⟩
theorem tyD_all (hI : ∀ c, c < 100 → IsiC E.K (E.cl c)) (s : Same P H) {d : D} {v : V} {t : Value} (i : Is E.K E.cl P d v) (e : tyD E.cl d = some t) : TyX E.K H v t := by
  unfold tyD at e
  split at e
  case h_8 =>
    rename_i c ns ws
    split at e
    · rename_i hlt
      cases e
      obtain ⟨a, xs, fs, rfl, ha, _⟩ := i.obj_inv
      exact .base (.ins (s _ _ ha) (hI _ hlt).cl (hI _ hlt).ha (hI _ hlt).hn (hI _ hlt).htk (hI _ hlt).hm)
    · cases e
  all_goals try cases e
  · rw [i.v_inv]; exact .base .non
  · rw [i.v_inv]; exact .base (.bl _)
  · rw [i.v_inv]; exact .base (.int _)
  · rw [i.v_inv]; exact .base (.str _)
  · obtain ⟨a, xs, rfl, ha, _⟩ := i.lst_inv; exact .base (.lst (s _ _ ha))
  · obtain ⟨a, xs, rfl, ha, _⟩ := i.tup_inv
    rcases sqT_mono s ha with (h | ⟨o, h⟩) | ⟨o, its, n, h1, h2, _⟩
    · exact .base (.tup h)
    · exact .fTuple h
    · exact .kTuple h1 h2
  · obtain ⟨a, xs, rfl, ha, _⟩ := i.dic_inv; exact .base (.dK (s _ _ ha))
structure EqCs (K : PySem.W.Frag) (cl : Nat → Addr) (cs : List Nat) (f : Addr) : Prop where
  eq : ∀ c ∈ cs, PySem.W.findIn K (.ref (cl c)) "__eq__" = some (some (.ref f))
  ne : ∀ c ∈ cs, PySem.W.findIn K (.ref (cl c)) "__ne__" = some (some (.builtin "object.__ne__"))
  mo : ∀ c ∈ cs, PySem.W.mroIn K (cl c) (.type "object") = some true
  fn : PySem.W.isFn K (.ref f) = true
  nf : ∀ c ∈ cs, ∀ d t, tyD cl d = some t → PySem.W.notFirst K (cl c) t = true
@[simp] def dEqO (neg : Bool) (cs : List Nat) (C : ConM) (ta tb : DE) : DE := fun x Γ Q => ta x Γ fun d1 Γ1 => tb x Γ1 fun d2 Γ2 => match clsOf Γ2.m d1 with
  | some (c, _, _) => c ∈ cs ∧ isTy (vw Γ2.m d2) = true ∧ C [d1, d2] Γ2.m (fun r m' => ∃ b, r = .v (.bl b) ∧ Q (.v (.bl (neg != b))) ⟨Γ2.s, m'⟩) fun _ _ => False
  | none => False
def rEqO (E : DC) (neg : Bool) (cs : List Nat) (sp : Sp) : R2 := fun x y H Q => ∃ c a dx fs t, c ∈ cs ∧ x = .ref a ∧ H a = some (.ins (E.cl c) dx fs) ∧ TyX E.K H y t ∧ PySem.W.notFirst E.K (E.cl c) t = true ∧ sp [x, y] H (fun v H' => ∃ b, v = .bl b ∧ Q (.bl (neg != b)) H') E0
theorem opEqO {neg : Bool} {sp : Sp} (hK : X.K = E.K) (hG : X.A.guards = some []) (T : EqCs E.K E.cl cs f) (F : FnG X.prog X.w X.K X.mg X.base k f fd ps sp) (hr : Room (k + 1) X.A) (hb : Bnd X.K fd ps 2 0 [] []) : OpR X (compareOp (if neg then .NotEq else .Eq)) (rEqO E neg cs sp) := by
  intro pins s σ H x y u v Q I rx ry h
  obtain ⟨c, a, dx, fs, t, hc, rfl, ha, ty, nf, h⟩ := h
  obtain rfl : u = Value.ref a := rx
  obtain ⟨mA, J, _⟩ := ins_get I.hok ha
  obtain ⟨od, J, _⟩ := J.look
  rw [← hK] at ty
  obtain ⟨_, kx, hp, _⟩ := kit_of I ry ty
  have lk := fun M => kx.ty M _ I.kIn hp
  have un := hr.un
  cases neg with
  | false =>
    show wpAny _ _ (richCompare .Eq (.ref a) v) _ _ s
    refine eq_own (K := X.K) (by omega) I.kIn J (lk _) (by rw [hK]; exact nf) (by rw [hK]; exact T.eq c hc) (by rw [hK]; exact T.fn) (call_g1 (A := X.A) (gs := [.ref a, y]) hG I.ok.frames F (hr.mono (Nat.le_succ _)) hb I (.cons rfl (.cons ry .nil)) rfl h fun w s' q => ?_)
    obtain ⟨z, H', I3, rv, b, rfl, q3⟩ := q
    exact ⟨b, rv, .bl b, H', I3, rfl, by simpa using q3⟩
  | true =>
    show wpAny _ _ (richCompare .NotEq (.ref a) v) _ _ s
    refine ne_own (K := X.K) (by omega) I.kIn J (lk _) (by rw [hK]; exact nf) (by rw [hK]; exact T.eq c hc) (by rw [hK]; exact T.fn) (by rw [hK]; exact T.ne c hc) (by rw [hK]; exact T.mo c hc) (call_g1 (A := X.A.in1) (gs := [.ref a, y]) hG I.ok.frames F hr.in1 hb I (.cons rfl (.cons ry .nil)) rfl h fun w s' q => ?_)
    obtain ⟨z, H', I3, rv, b, rfl, q3⟩ := q
    exact ⟨b, rv, .bl (!b), H', I3, rfl, by simpa using q3⟩
theorem up_eqO {neg : Bool} (hI : ∀ c, c < 100 → IsiC E.K (E.cl c)) (T : EqCs E.K E.cl cs f) {Q : VK} (h : up E W (dEqO neg cs C ta tb) σ H Q) : tOp (rEqO E neg cs (spM E.K E.cl E.T C)) (up E W ta) (up E W tb) σ H Q := by
  obtain ⟨P, Γ, x, Qd, Rp, hT, hx, hQ⟩ := h
  refine ⟨P, Γ, x, _, Rp, hT, hx, fun d1 Γ1 v1 P1 H1 g1 R1 i1 h1 => ?_⟩
  refine ⟨P1, Γ1, x, _, R1, h1, hx, fun d2 Γ2 v2 P2 H2 g2 R2 i2 h2 => ?_⟩
  split at h2
  · rename_i c ns ws ec
    obtain ⟨hc, hy, h2⟩ := h2
    have i1' := i1.mono g2.p
    obtain ⟨q, dx, fs, rfl, hq, rfl, hw, _⟩ := clsOf_ok R2 i1' ec
    obtain ⟨t, et⟩ := isTy_some (cl := E.cl) hy
    refine ⟨c, q, dx, fs, t, hc, rfl, hq, tyD_all hI (allP_sub R2).2 (i2.vw R2) et, T.nf c hc _ _ et, P2, _, _, _, _, R2.sub, R2.nt, R2.tb, R2.stok, .cons i1' (.cons i2 .nil), h2, fun d v m' P' H' bk i q => ?_, fun _ _ _ _ _ _ _ _ z => z.elim⟩
    obtain ⟨b, rfl, q⟩ := q
    exact ⟨b, i.v_inv, hQ _ _ _ _ _ (g1.trans (g2.trans (.back bk))) (R2.back bk) .v q⟩
  · exact h2.elim
theorem de_eqO (neg : Bool) (hK : X.K = E.K) (hG : X.A.guards = some []) (hI : ∀ c, c < 100 → IsiC E.K (E.cl c)) (T : EqCs E.K E.cl cs f) (F : FnG X.prog X.w X.K X.mg X.base k f fd ps (spM E.K E.cl E.T C)) (hr : Room (k + 1) X.A) (hb : Bnd X.K fd ps 2 0 [] [])
    (h1 : PE X a (up E W ta)) (h2 : PE X b (up E W tb)) (hm : behindInMarks (if neg then .NotEq else .Eq) b = false) : PE X (.Compare a [if neg then .NotEq else .Eq] [b] pos) (up E W (dEqO neg cs C ta tb)) :=
  impE (pe_cmpR (opEqO hK hG T F hr hb) h1 h2 hm) fun _ _ _ h => up_eqO hI T h
theorem dt_eqO (neg : Bool) (hK : X.K = E.K) (hG : X.A.guards = some []) (hI : ∀ c, c < 100 → IsiC E.K (E.cl c)) (T : EqCs E.K E.cl cs f) (F : FnG X.prog X.w X.K X.mg X.base k f fd ps (spM E.K E.cl E.T C)) (hr : Room (k + 1) X.A) (hb : Bnd X.K fd ps 2 0 [] [])
    (h1 : PE X a (up E W ta)) (h2 : PE X b (up E W tb)) (hm : behindInMarks (if neg then .NotEq else .Eq) b = false) : PT X (.Compare a [if neg then .NotEq else .Eq] [b] pos) (upT E W (dTest (dEqO neg cs C ta tb))) :=
  impT (pt_cmpR (opEqO hK hG T F hr hb) h1 h2 hm) fun _ _ _ h => up_eqO hI T (up_test h)
end
end DL

namespace DL
open PySem L2 PySem.Calls

section
variable {E : DC} {W : WX} {P P' H H' : Hp} {σ σ' : L2.St} {Γ Γ' : DS} {X : Cx}
variable {a b c e o : Expr} {es : List Expr} {ta tb tc te to ti : DE} {pos p apos p1 p2 pos2 : Pos} {tas tks : DA}
variable {k : Nat} {f : Addr} {fd : FuncData} {ps : List Str} {C : ConM} {cs : List Nat}
def NsW (E : DC) (cs : List Nat) (sp : Sp) (l b : Addr) (N : Nat) (H : Hp) (Q : VK) : List V → Prop
  | [] => Q (.bl true) H
  | .non :: r => NsW E cs sp l b N H Q r
  | .ref a :: _ => ∃ c dx fs, c ∈ cs ∧ H a = some (.ins (E.cl c) dx fs) ∧ PySem.W.notFirst E.K (E.cl c) (.type "NoneType") = true ∧
      sp [.ref a, .non] H (fun v H' => v = .bl false ∧ (∃ xs ys, H' l = some (.lst xs) ∧ H' b = some (.lst ys) ∧ xs.length = N ∧ ys.length = N) ∧ Q (.bl false) H') E0
  | _ => False
def rNs (E : DC) (cs : List Nat) (sp : Sp) : R2 := fun x y H Q => ∃ l b xs ys, x = .ref l ∧ y = .ref b ∧ H l = some (.lst xs) ∧ H b = some (.lst ys) ∧ (∀ y ∈ ys, y = V.non) ∧
  if xs.length = ys.length then NsW E cs sp l b ys.length H Q xs else Q (.bl false) H
theorem lat_of {pins : List (Addr × Obj)} {s : Shared} {l : Addr} {xs : List V} (I : Inv X pins σ H s) (h : H l = some (.lst xs)) : ∃ its : List Value, Vals xs its ∧ LAt l its.toArray s := by
  obtain ⟨_, its, n, r, e⟩ := (show ObjOk X.prog X.w H s.heap l (.lst xs) from I.hok l _ h)
  exact ⟨its, r, n, e⟩
theorem opNs {sp : Sp} (hK : X.K = E.K) (hG : X.A.guards = some []) (T : EqCs E.K E.cl cs f) (F : FnG X.prog X.w X.K X.mg X.base k f fd ps sp) (hr : Room (k + 1) X.A) (hb : Bnd X.K fd ps 2 0 [] []) : OpR X (compareOp .Eq) (rNs E cs sp) := by
  intro pins s σ H x y u v Q I rx ry h
  obtain ⟨l, b, xs, ys, rfl, rfl, hl, hy, hn, h⟩ := h
  obtain rfl : u = Value.ref l := rx
  obtain rfl : v = Value.ref b := ry
  have un := hr.un
  show wpAny _ _ (richCompare .Eq (.ref l) (.ref b)) _ _ s
  split at h
  · rename_i hlen
    have two : ∀ {s' : Shared} {H' : Hp} {xs' ys' : List V}, Inv X pins σ H' s' → H' l = some (.lst xs') → H' b = some (.lst ys') → xs'.length = ys.length → ys'.length = ys.length → TwoL l b ys.length s' := fun {s' H' xs' ys'} I' e1 e2 z1 z2 => by
      obtain ⟨i1, r1, q1⟩ := lat_of I' e1
      obtain ⟨i2, r2, q2⟩ := lat_of I' e2
      exact ⟨_, _, q1, q2, by rw [List.size_toArray, ← r1.length]; exact z1, by rw [List.size_toArray, ← r2.length]; exact z2⟩
    refine rc_listB (N := ys.length) (show X.A.units < cLine by omega) (fun i s' => Inv X pins σ H s' ∧ NsW E cs sp l b ys.length H Q (xs.drop i)) (fun s' => ∃ H', Inv X pins σ H' s' ∧ (∃ xs' ys', H' l = some (.lst xs') ∧ H' b = some (.lst ys') ∧ xs'.length = ys.length ∧ ys'.length = ys.length) ∧ Q (.bl false) H')
      (fun i s' ⟨I', _⟩ => two I' hl hy hlen rfl) (fun s' ⟨H', I', ⟨xs', ys', e1, e2, e3, e4⟩, _⟩ => two I' e1 e2 e3 e4) (fun i s' as bs ⟨I', h'⟩ l1 l2 h1 h2 => ?_)
      (fun s' ⟨I', h'⟩ => ?_) (fun s' ⟨H', I', _, q⟩ => ⟨.bl false, H', I', rfl, q⟩) ⟨I, h⟩
    · obtain ⟨i1, r1, n1, q1⟩ := lat_of I' hl
      obtain ⟨i2, r2, n2, q2⟩ := lat_of I' hy
      obtain ⟨m1, w1⟩ := l1
      obtain ⟨m2, w2⟩ := l2
      obtain rfl : i1.toArray = as := by rw [q1] at w1; cases w1; rfl
      obtain rfl : i2.toArray = bs := by rw [q2] at w2; cases w2; rfl
      have k1 : i < xs.length := by rw [r1.length]; simpa using h1
      have k2 : i < ys.length := by rw [r2.length]; simpa using h2
      obtain ⟨a1, g1, s1⟩ := r1.get (List.getElem?_eq_getElem k1)
      obtain ⟨a2, g2, s2⟩ := r2.get (List.getElem?_eq_getElem k2)
      have e1 : i1.toArray[i] = a1 := by
        have : i1.toArray[i]? = some a1 := by rw [List.getElem?_toArray]; exact g1
        exact Option.some.inj ((Array.getElem?_eq_getElem h1).symm.trans this)
      have e2 : i2.toArray[i] = a2 := by
        have : i2.toArray[i]? = some a2 := by rw [List.getElem?_toArray]; exact g2
        exact Option.some.inj ((Array.getElem?_eq_getElem h2).symm.trans this)
      rw [e1, e2]
      rw [hn _ (List.getElem_mem k2)] at s2
      obtain rfl : a2 = Value.none := s2
      rw [List.drop_eq_getElem_cons k1] at h'
      cases q : xs[i] with
      | non =>
        rw [q] at h' s1
        obtain rfl : a1 = Value.none := s1
        refine SeqAt.EqAt.same (A := X.A.in1) (s := s') Value.none X.prog X.w _ _ ?_
        rw [if_pos rfl]
        exact ⟨I', h'⟩
      | ref z =>
        rw [q] at h' s1
        obtain rfl : a1 = Value.ref z := s1
        obtain ⟨c, dx, fs, hc, hz, nf, hs⟩ := h'
        obtain ⟨mA, J, _⟩ := ins_get I'.hok hz
        obtain ⟨od, J, _⟩ := J.look
        unfold eqBool
        refine wpAny_holding (wpAny_ite_split (fun hab => nomatch (eq_of_beq hab)) fun _ => ?_)
        refine wpAny_bind (wpAny_mono (eq_own (K := X.K) (tb := .type "NoneType") (Q := fun v s' => v = .bool false ∧ ∃ H', Inv X pins σ H' s' ∧ (∃ xs' ys', H' l = some (.lst xs') ∧ H' b = some (.lst ys') ∧ xs'.length = ys.length ∧ ys'.length = ys.length) ∧ Q (.bl false) H')
          (by show X.A.in1.units < cLine; show X.A.units + 1 < cLine; omega) I'.kIn J (.now) (by rw [hK]; exact nf) (by rw [hK]; exact T.eq c hc) (by rw [hK]; exact T.fn) (call_g1 (A := X.A.in1) (gs := [.ref z, .non]) hG I'.ok.frames F hr.in1 hb I' (.cons rfl (.cons rfl .nil)) rfl hs fun w s'' q => ?_)) (fun v s'' ⟨ev, q⟩ => ?_) fun _ _ y => y)
        · obtain ⟨vv, H', I3, rv, rfl, w3, q3⟩ := q
          exact ⟨false, rv, rfl, H', I3, w3, q3⟩
        · subst ev
          refine wpAny_truthy_bool ?_
          rw [if_neg Bool.false_ne_true]
          exact q
      | _ => rw [q] at h'; exact h'.elim
    · rw [List.drop_eq_nil_of_le (by omega)] at h'
      exact ⟨.bl true, H, I', rfl, h'⟩
  · rename_i hlen
    obtain ⟨i1, r1, q1⟩ := lat_of I hl
    obtain ⟨i2, r2, q2⟩ := lat_of I hy
    exact rc_listD (show X.A.units < cLine by omega) (by rw [List.size_toArray, List.size_toArray, ← r1.length, ← r2.length]; exact hlen) q1 q2 ⟨.bl false, H, I, rfl, h⟩
@[simp] def eqNs (cs : List Nat) (C : ConM) (Γ : DS) (Q : D → DS → Prop) : List D → Prop
  | [] => Q (.v (.bl true)) Γ
  | d :: ds => if isN d = true then eqNs cs C Γ Q ds else match clsOf Γ.m d with
    | some (c, _, _) => c ∈ cs ∧ C [d, .v .non] Γ.m (fun r m' => r = .v (.bl false) ∧ Q (.v (.bl false)) ⟨Γ.s, m'⟩) fun _ _ => False
    | none => False
@[simp] def dEqNs (cs : List Nat) (C : ConM) (ta tb : DE) : DE := fun x Γ Q => ta x Γ fun d1 Γ1 => tb x Γ1 fun d2 Γ2 => match d1, d2 with
  | .lst ds, .lst es => (∀ e ∈ es, e = .v .non) ∧ if ds.length = es.length then eqNs cs C Γ2 Q ds else Q (.v (.bl false)) Γ2
  | _, _ => False
theorem up_ns (T : EqCs E.K E.cl cs f) {Q : VK} (h : up E W (dEqNs cs C ta tb) σ H Q) : tOp (rNs E cs (spM E.K E.cl E.T C)) (up E W ta) (up E W tb) σ H Q := by
  obtain ⟨P, Γ, x, Qd, Rp, hT, hx, hQ⟩ := h
  refine ⟨P, Γ, x, _, Rp, hT, hx, fun d1 Γ1 v1 P1 H1 g1 R1 i1 h1 => ?_⟩
  refine ⟨P1, Γ1, x, _, R1, h1, hx, fun d2 Γ2 v2 P2 H2 g2 R2 i2 h2 => ?_⟩
  split at h2
  · rename_i ds es
    obtain ⟨hn, h2⟩ := h2
    obtain ⟨l, xs, rfl, hl, hx1⟩ := (i1.mono g2.p).lst_inv
    obtain ⟨b, ys, rfl, hb, hy1⟩ := i2.lst_inv
    refine ⟨l, b, xs, ys, rfl, rfl, R2.sub _ _ hl, R2.sub _ _ hb, fun y hy => ?_, ?_⟩
    · obtain ⟨j, hj, rfl⟩ := List.getElem_of_mem hy
      obtain ⟨d, e1, e2⟩ := hy1.get' (List.getElem?_eq_getElem hj)
      rw [hn d (List.mem_of_getElem? e1)] at e2
      exact e2.v_inv
    · rw [hx1.length, hy1.length]
      have g := g1.trans g2
      split
      · rename_i hlen
        rw [if_pos hlen] at h2
        have key : ∀ (ds : List D) (zs : List V), IsA E.K E.cl P2 ds zs → eqNs cs C Γ2 Qd ds → NsW E cs (spM E.K E.cl E.T C) l b es.length H2 Q zs := by
          intro ds
          induction ds with
          | nil => intro zs hz q; rw [hz.nil_inv]; exact hQ _ _ _ _ _ g R2 .v q
          | cons d ds ih =>
            intro zs hz q
            obtain ⟨z, r, rfl, iz, ir⟩ := hz.cons_inv
            unfold eqNs at q
            split at q
            · rename_i hd
              have e := isN_eq iz
              rw [hd] at e
              obtain rfl := of_decide_eq_true e
              exact ih r ir q
            · split at q
              · rename_i c ns ws ec
                obtain ⟨hc, q⟩ := q
                have iz' := iz
                obtain ⟨w, dx, fs, rfl, hw, rfl, _, _⟩ := clsOf_ok R2 iz ec
                refine ⟨c, dx, fs, hc, hw, T.nf c hc (.v .non) _ rfl, P2, _, _, _, _, R2.sub, R2.nt, R2.tb, R2.stok, .cons iz' (.cons .v .nil), q, fun d v m' P' H' bk i q => ?_, fun _ _ _ _ _ _ _ _ z => z.elim⟩
                obtain ⟨rfl, q⟩ := q
                refine ⟨i.v_inv, ⟨xs, ys, bk.s _ _ (bk.p _ _ hl), bk.s _ _ (bk.p _ _ hb), hx1.length.trans hlen, hy1.length⟩, hQ _ _ _ _ _ (g.trans (.back bk)) (R2.back bk) .v q⟩
              · exact q.elim
        exact key _ _ hx1 h2
      · rename_i hlen
        rw [if_neg hlen] at h2
        exact hQ _ _ _ _ _ g R2 .v h2
  · exact h2.elim
theorem de_eqNs (hK : X.K = E.K) (hG : X.A.guards = some []) (T : EqCs E.K E.cl cs f) (F : FnG X.prog X.w X.K X.mg X.base k f fd ps (spM E.K E.cl E.T C)) (hr : Room (k + 1) X.A) (hb : Bnd X.K fd ps 2 0 [] [])
    (h1 : PE X a (up E W ta)) (h2 : PE X b (up E W tb)) (hm : behindInMarks .Eq b = false) : PE X (.Compare a [.Eq] [b] pos) (up E W (dEqNs cs C ta tb)) := impE (pe_cmpR (opNs hK hG T F hr hb) h1 h2 hm) fun _ _ _ h => up_ns T h
theorem dt_eqNs (hK : X.K = E.K) (hG : X.A.guards = some []) (T : EqCs E.K E.cl cs f) (F : FnG X.prog X.w X.K X.mg X.base k f fd ps (spM E.K E.cl E.T C)) (hr : Room (k + 1) X.A) (hb : Bnd X.K fd ps 2 0 [] [])
    (h1 : PE X a (up E W ta)) (h2 : PE X b (up E W tb)) (hm : behindInMarks .Eq b = false) : PT X (.Compare a [.Eq] [b] pos) (upT E W (dTest (dEqNs cs C ta tb))) := impT (pt_cmpR (opNs hK hG T F hr hb) h1 h2 hm) fun _ _ _ h => up_ns T (up_test h)

@[simp] def dFzV (i : Nat) : DE := fun x Γ Q => match Γ.s[i]? with
  | some (.d (.v (.ref a))) => match Γ.m a with
    | some (.lst ds) => Q (.lst ds) ((Γ.put a none).set i (.d (.lst ds)))
    | _ => False
  | _ => False
theorem set_same {σ : L2.St} {i : Nat} {v : V} (h : σ[i]? = some (some v)) : σ.set i (some v) = σ := by
  apply List.ext_getElem?
  intro j
  rw [List.getElem?_set]
  by_cases e : i = j
  · subst e
    rw [if_pos rfl, h]
    have := (List.getElem?_eq_some_iff.mp h).1
    rw [if_pos this]
  · rw [if_neg e]
theorem de_fzV (i : Nat) {x : Str} (hN : X.N[i]? = some x := by rfl) (hv : Vis X.env.scope x := by first | exact Or.inl rfl | exact Or.inr (Or.inl rfl) | exact Or.inr (Or.inr rfl)) (hd : (x == ("__debug__" : Str)) = false := by decide)
    (hcd : (x == ("__classdict__" : Str)) = false := by decide) : PE X (.Name x pos) (up E W (dFzV i)) := impE (pv i hN hv hd hcd) fun σ H Q h => by
  obtain ⟨P, Γ, x, Qd, R, hT, hx, hQ⟩ := h
  unfold dFzV at hT
  split at hT
  · rename_i a e
    split at hT
    · rename_i ds em
      obtain ⟨v, ev, iv⟩ := R.get e
      obtain ⟨pa, ⟨xs, h3, h4⟩, _⟩ := R.st _ _ em
      obtain ⟨R2, g2⟩ := R.knowOwn em h3 (fun ps => nofun)
      have il : Is E.K E.cl (upd P a (.lst xs)) (.lst ds) (.ref a) := .lst upd_same (h4.mono (same_upd pa))
      have ev' := iv.v_inv
      subst ev'
      have R3 := R2.setD (i := i) il
      rw [set_same ev] at R3
      exact ⟨_, ev, hQ _ _ _ _ _ (g2.set i (.d (.lst ds))) R3 il hT⟩
    · exact hT.elim
  · exact hT.elim
end

section
open PySem.W ClX
variable {X : Cx} {k n : Nat} {C p g : Addr} {mc : Value} {sp : Sp} {o e : Expr} {es : List Expr} {mm : Str} {pos apos : Pos} {ta : TE} {t tk : TA} {pl : Sem Bool} {W : WX} {fd : FuncData} {ps ks : List Str} {src : List Src} {kws : List Keyword}
def tGc (C : Addr) (n m : Nat) (sp : Sp) (W : WX) (src : List Src) (ta : TE) (t tk : TA) : TE := fun σ H Q => ta σ H fun x H0 => x = .ref C ∧ t σ H0 fun vs H1 => tk σ H1 fun zs H2 => vs.length = n ∧ zs.length = m ∧ sp (.ref C :: pick .non src vs zs) H2 Q (WE W σ)
theorem run_gc {pins : List (Addr × Obj)} {σ : L2.St} {H : Hp} {s : Shared} {q : Addr} {E : XK} {Q : VK} {us ws : List Value} {vs zs : List V} (hG : X.A.guards = some []) (F : FnG X.prog X.w X.K X.mg X.base k g fd ps sp) (hr : Room k X.A) (hb : Bnd X.K fd ps 1 n ks src) (hx : PassesAt (L2.CX X.prog X.w) X σ E)
    (I : Inv X ((q, methodObj (.ref g) (.ref C)) :: pins) σ H s) (r : Vals vs us) (rz : Vals zs ws) (l1 : vs.length = n) (l2 : zs.length = ks.length) (h : sp (.ref C :: pick .non src vs zs) H Q E) : wpAny (model X.prog X.w) X.A (call (.ref q) us (ks.zip ws)) (EP X pins σ Q) X.xe s := by
  refine thn (Q := fun u s' => EP X ((q, methodObj (.ref g) (.ref C)) :: pins) σ Q u s') (wpAny_call (method_call (pin_at I) ?_)) fun _ _ y => unpinE y
  refine codeAny_mono (F.go X.A X.stack s H ⟨.ref C :: us, ks.zip ws⟩ (.ref C :: pick .none src us ws) (V.ref C :: pick .non src vs zs) Q E hG hr I.env0 (hb.to s [_] us ws I.kIn rfl (r.length.symm.trans l1) (rz.length.symm.trans l2)) (.cons rfl (Vals.pick r rz src)) h) fun c s' hq => ?_
  match c, hq with
  | .error e, q => exact hx _ H s e s' I q
  | .ok (.ret u), q => exact I.after q
  | .ok .next, q => exact (show False from q).elim
  | .ok .brk, q => exact (show False from q).elim
  | .ok .cont, q => exact (show False from q).elim
theorem pg_cmeth (hG : X.A.guards = some []) (he : PE X o ta) (r : CRead X.K C mc) (c : CMet X.K C mc mm p g) (F : FnG X.prog X.w X.K X.mg X.base k g fd ps sp) (hr : Room k X.A) (hb : Bnd X.K fd ps 1 n ks src) (tkx : Takes X W)
    (ha : PA X (e :: es) t) (hkw : PK X kws tk) (hall : (backToKw pos (keywordEach kws X.env)).all (·.1.isSome) = true := by rfl) (hks : (backToKw pos (keywordEach kws X.env)).filterMap (·.1) = ks := by rfl)
    (hst : starEach (e :: es) X.env = (false, eval e X.env) :: starEach es X.env := by rfl) (hpl : ((backTo pos (starEach (e :: es) X.env)).any (·.1) || (backToKw pos (keywordEach kws X.env)).any (·.1.isNone)) = false := by rfl)
    (ht : eval (.Call (.Attribute o mm apos) (e :: es) kws pos) X.env = (do
      let ov ← eval o X.env
      standAt apos.atName
      let (f, first) ← holding [ov] (getMethod ov mm pl)
      callWith pos f first (backTo pos (starEach (e :: es) X.env)) (backToKw pos (keywordEach kws X.env))) := by rfl) : PE X (.Call (.Attribute o mm apos) (e :: es) kws pos) (tGc C n ks.length sp W src ta t tk) := ⟨fun pins s σ H Q I h => by
  refine methodCall_KW (pl := pl) (thn (he.run pins s σ H _ I h) fun u s1 ⟨x, H1, I1, rx, ex, q⟩ => ?_) ht
  subst ex; obtain rfl : u = Value.ref C := rx
  refine getmethcm_ok I1 r c fun s2 I2 => callWith_of hpl (keeps_M (K := X.K) (self := .ref C) c.fi) (PyProof.Rows.evalArgs_kw2 hall (thn (ha.run pos _ s2 σ H1 _ I2 q) fun us s3 ⟨vs, H2, I3, rv, q2⟩ => thn (hkw.run pos _ s3 σ H2 _ I3 q2) fun ws s4 ⟨zs, H3, I4, rz, l1, l2, q3⟩ => ⟨⟨pin_at I4, I4.kIn⟩, ?_⟩) hst)
  rw [hks]
  exact run_gc hG F hr hb (passAt tkx σ) I4 rv rz l1 l2 q3⟩
theorem pg_cmeth0 (hG : X.A.guards = some []) (he : PE X o ta) (r : CRead X.K C mc) (c : CMet X.K C mc mm p g) (F : FnG X.prog X.w X.K X.mg X.base k g fd ps sp) (hr : Room k X.A) (hb : Bnd X.K fd ps 1 0 ks src) (tkx : Takes X W)
    (hkw : PK X kws tk) (hall : (backToKw pos (keywordEach kws X.env)).all (·.1.isSome) = true := by rfl) (hks : (backToKw pos (keywordEach kws X.env)).filterMap (·.1) = ks := by rfl)
    (hpl : ((backTo pos (starEach [] X.env)).any (·.1) || (backToKw pos (keywordEach kws X.env)).any (·.1.isNone)) = false := by rfl)
    (ht : eval (.Call (.Attribute o mm apos) [] kws pos) X.env = (do
      let ov ← eval o X.env
      standAt apos.atName
      let (f, first) ← holding [ov] (getMethod ov mm pl)
      callWith pos f first (backTo pos (starEach [] X.env)) (backToKw pos (keywordEach kws X.env))) := by rfl) : PE X (.Call (.Attribute o mm apos) [] kws pos) (tGc C 0 ks.length sp W src ta tNil tk) := ⟨fun pins s σ H Q I h => by
  refine methodCall_KW (pl := pl) (thn (he.run pins s σ H _ I h) fun u s1 ⟨x, H1, I1, rx, ex, q⟩ => ?_) ht
  subst ex; obtain rfl : u = Value.ref C := rx
  refine getmethcm_ok I1 r c fun s2 I2 => callWith_of hpl (keeps_M (K := X.K) (self := .ref C) c.fi) (PyProof.Rows.evalArgs_kw2_nil hall (thn (hkw.run pos _ s2 σ H1 _ I2 q) fun ws s4 ⟨zs, H3, I4, rz, l1, l2, q3⟩ => ⟨⟨pin_at I4, I4.kIn⟩, ?_⟩))
  rw [hks]
  exact run_gc (us := []) (vs := []) hG F hr hb (passAt tkx σ) I4 .nil rz rfl l2 q3⟩
end
section
variable {E : DC} {W : WX} {P P' H H' : Hp} {σ σ' : L2.St} {Γ Γ' : DS} {X : Cx}
variable {e o : Expr} {es : List Expr} {te to : DE} {pos apos p1 : Pos} {tas tks : DA}
variable {k n m cn : Nat} {p g : Addr} {mc : Value} {fd : FuncData} {ps ks : List Str} {C : ConM} {src : List Src} {kws : List Keyword} {x mm : Str} {pl : Sem Bool}
@[simp] def dCMeth (a : Addr) (C : ConM) (n m : Nat) (src : List Src) (t tk : DA) : DE := fun x Γ Q => t x Γ fun ds Γ1 => tk x Γ1 fun es Γ2 => ds.length = n ∧ es.length = m ∧ C (.v (.ref a) :: pickD src ds es) Γ2.m (fun d m' => Q d ⟨Γ2.s, m'⟩) fun e m' => x e ⟨Γ2.s, m'⟩
theorem up_cmeth {a : Addr} {Q : VK} (h : up E W (dCMeth a C n m src tas tks) σ H Q) : tGc a n m (spM E.K E.cl E.T C) W src (tC (.ref a)) (upA E W tas) (upA E W tks) σ H Q := by
  obtain ⟨P, Γ, x, Qd, R, hT, hx, hQ⟩ := h
  refine ⟨rfl, P, Γ, x, _, R, hT, hx, fun ds Γ1 vs P1 H1 g1 R1 i1 h1 => ?_⟩
  refine ⟨P1, Γ1, x, _, R1, h1, hx, fun es Γ2 zs P2 H2 g2 R2 i2 h2 => ?_⟩
  obtain ⟨l1, l2, h2⟩ := h2
  exact ⟨i1.length.trans l1, i2.length.trans l2, P2, _, _, _, _, R2.sub, R2.nt, R2.tb, R2.stok, .cons .v ((i1.mono g2.p).pick i2 src), h2, fun d v m' P' H' bk i q => hQ _ _ _ _ _ (g1.trans (g2.trans (.back bk))) (R2.back bk) i q, fun e cls d m' P' H' bk xi z => hx e _ _ _ _ _ (R2.back bk) xi z⟩
theorem de_cmeth (hG : X.A.guards = some []) (hgl : Gl X x) (hm : X.mg x = some (.ref (E.cl cn))) (r : ClX.CRead X.K (E.cl cn) mc) (c : ClX.CMet X.K (E.cl cn) mc mm p g) (F : FnG X.prog X.w X.K X.mg X.base k g fd ps (spM E.K E.cl E.T C)) (hr : Room k X.A) (hb : Bnd X.K fd ps 1 n ks src) (tkx : Takes X W)
    (ha : PA X (e :: es) (upA E W tas)) (hkw : PK X kws (upA E W tks)) (hall : (backToKw pos (keywordEach kws X.env)).all (·.1.isSome) = true := by rfl) (hks : (backToKw pos (keywordEach kws X.env)).filterMap (·.1) = ks := by rfl)
    (hdb : (x == ("__debug__" : Str)) = false := by decide) (hst : starEach (e :: es) X.env = (false, eval e X.env) :: starEach es X.env := by rfl) (hpl : ((backTo pos (starEach (e :: es) X.env)).any (·.1) || (backToKw pos (keywordEach kws X.env)).any (·.1.isNone)) = false := by rfl)
    (ht : eval (.Call (.Attribute (.Name x p1) mm apos) (e :: es) kws pos) X.env = (do
      let ov ← eval (.Name x p1) X.env
      standAt apos.atName
      let (f, first) ← holding [ov] (getMethod ov mm pl)
      callWith pos f first (backTo pos (starEach (e :: es) X.env)) (backToKw pos (keywordEach kws X.env))) := by rfl) : PE X (.Call (.Attribute (.Name x p1) mm apos) (e :: es) kws pos) (up E W (dCMeth (E.cl cn) C n ks.length src tas tks)) :=
  impE (pg_cmeth (pl := pl) hG (pe_own hgl hm hdb) r c F hr hb tkx ha hkw hall hks hst hpl ht) fun _ _ _ h => up_cmeth h
theorem de_cmeth0 (hG : X.A.guards = some []) (hgl : Gl X x) (hm : X.mg x = some (.ref (E.cl cn))) (r : ClX.CRead X.K (E.cl cn) mc) (c : ClX.CMet X.K (E.cl cn) mc mm p g) (F : FnG X.prog X.w X.K X.mg X.base k g fd ps (spM E.K E.cl E.T C)) (hr : Room k X.A) (hb : Bnd X.K fd ps 1 0 ks src) (tkx : Takes X W)
    (hkw : PK X kws (upA E W tks)) (hall : (backToKw pos (keywordEach kws X.env)).all (·.1.isSome) = true := by rfl) (hks : (backToKw pos (keywordEach kws X.env)).filterMap (·.1) = ks := by rfl)
    (hdb : (x == ("__debug__" : Str)) = false := by decide) (hpl : ((backTo pos (starEach [] X.env)).any (·.1) || (backToKw pos (keywordEach kws X.env)).any (·.1.isNone)) = false := by rfl)
    (ht : eval (.Call (.Attribute (.Name x p1) mm apos) [] kws pos) X.env = (do
      let ov ← eval (.Name x p1) X.env
      standAt apos.atName
      let (f, first) ← holding [ov] (getMethod ov mm pl)
      callWith pos f first (backTo pos (starEach [] X.env)) (backToKw pos (keywordEach kws X.env))) := by rfl) : PE X (.Call (.Attribute (.Name x p1) mm apos) [] kws pos) (up E W (dCMeth (E.cl cn) C 0 ks.length src dNil tks)) :=
  impE (pg_cmeth0 (pl := pl) hG (pe_own hgl hm hdb) r c F hr hb tkx hkw hall hks hpl ht) fun σ H Q h => by
    obtain ⟨e, q⟩ := up_cmeth h
    exact ⟨e, upA_nil q⟩
end
end DL

namespace DL
open PySem L2 PySem.Calls

section
variable {E : DC} {W : WX} {P P' H H' : Hp} {σ σ' : L2.St} {Γ Γ' : DS} {X : Cx}
variable {a b c e o : Expr} {es : List Expr} {ta tb tc te to ti : DE} {pos p apos p1 p2 pos2 : Pos} {tas tks : DA}
def rNil (K : PySem.W.Frag) (neg : Bool) : R2 := fun x y H Q => ∃ l b xs, x = .ref l ∧ y = .ref b ∧ ((SqL K H l xs ∧ SqL K H b []) ∨ (SqT K H l xs ∧ SqT K H b [])) ∧ Q (.bl (neg != xs.isEmpty)) H
theorem isEmpty_size {xs : List V} {its : List Value} (r : Vals xs its) : xs.isEmpty = (its.toArray.size == 0) := by
  cases r <;> simp
theorem isl {h : Heap} {a : Addr} {its : Array Value} (e : PlainL h a its) : h.IsList a its := by
  obtain ⟨o, n, h1, h2, _, h3⟩ := e
  exact ⟨o, h1, h2, n, h3⟩
theorem opNil {neg : Bool} (hu : X.A.units + 1 < cLine) : OpR X (compareOp (if neg then .NotEq else .Eq)) (rNil X.K neg) := by
  intro pins s σ H x y u v Q I rx ry h
  obtain ⟨l, b, xs, rfl, rfl, h, q⟩ := h
  obtain rfl : u = Value.ref l := rx
  obtain rfl : v = Value.ref b := ry
  have un : X.A.units < cLine := Nat.lt_of_succ_lt hu
  rcases h with ⟨h1, h2⟩ | ⟨h1, h2⟩
  · obtain ⟨its, r, e, z⟩ := I.list h1
    obtain ⟨its2, r2, e2, z2⟩ := I.list h2
    replace e := isl e
    replace e2 := isl e2
    cases r2
    have em := isEmpty_size r
    have ql : ∀ k : Bool, k = (its.toArray.size == 0) → ∀ Q' : Value → Shared → Prop, True := fun _ _ _ => trivial
    by_cases z0 : its.toArray.size = 0
    · have e0 : xs.isEmpty = true := by rw [em, z0]; rfl
      rw [e0] at q
      cases neg with
      | false =>
        have k := SeqAt.RcAt.lists (A := X.A) (s := s) (e := fun _ => true) e e2 (by simpa using z0) un (fun j j1 j2 => absurd j1 (by omega))
        refine k X.prog X.w _ _ ⟨.bl _, H, I, rfl, ?_⟩
        simpa [z0] using q
      | true =>
        have k := SeqAt.RcNeAt.lists (A := X.A) (s := s) (e := fun _ => true) e e2 (by simpa using z0) un (fun j j1 j2 => absurd j1 (by omega))
        refine k X.prog X.w _ _ ⟨.bl _, H, I, rfl, ?_⟩
        simpa [z0] using q
    · have e0 : xs.isEmpty = false := by rw [em]; simpa using z0
      rw [e0] at q
      cases neg with
      | false =>
        have k := SeqAt.RcAt.lists_lengths (A := X.A) (s := s) e e2 (by simpa using z0) un
        exact k X.prog X.w _ _ ⟨.bl _, H, I, rfl, by simpa using q⟩
      | true =>
        have k := SeqAt.RcNeAt.lists_lengths (A := X.A) (s := s) e e2 (by simpa using z0) un
        exact k X.prog X.w _ _ ⟨.bl _, H, I, rfl, by simpa using q⟩
  · obtain ⟨its, r, e, z⟩ := I.tuple h1
    obtain ⟨its2, r2, e2, z2⟩ := I.tuple h2
    cases r2
    have em := isEmpty_size r
    cases neg with
    | false =>
      have k := SeqAt.RcAt.tuples (A := X.A) (s := s) (e := fun _ => true) e e2 un (fun j j1 j2 => absurd j2 (by simp))
      refine k X.prog X.w _ _ ⟨.bl _, H, I, rfl, ?_⟩
      simpa [em] using q
    | true =>
      have k := SeqAt.RcNeAt.tuples (A := X.A) (s := s) (e := fun _ => true) e e2 un (fun j j1 j2 => absurd j2 (by simp))
      refine k X.prog X.w _ _ ⟨.bl _, H, I, rfl, ?_⟩
      simpa [em] using q
@[simp] def dNil? (neg : Bool) (ta tb : DE) : DE := fun x Γ Q => ta x Γ fun d1 Γ1 => tb x Γ1 fun d2 Γ2 => match vw Γ2.m d1, d2 with
  | .lst ds, .lst [] => Q (.v (.bl (neg != ds.isEmpty))) Γ2
  | .tup ds, .tup [] => Q (.v (.bl (neg != ds.isEmpty))) Γ2
  | _, _ => False
theorem up_nil? {neg : Bool} (hK : X.K = E.K) {Q : VK} (h : up E W (dNil? neg ta tb) σ H Q) : tOp (rNil X.K neg) (up E W ta) (up E W tb) σ H Q := by
  obtain ⟨P, Γ, x, Qd, Rp, hT, hx, hQ⟩ := h
  refine ⟨P, Γ, x, _, Rp, hT, hx, fun d1 Γ1 v1 P1 H1 g1 R1 i1 h1 => ?_⟩
  refine ⟨P1, Γ1, x, _, R1, h1, hx, fun d2 Γ2 v2 P2 H2 g2 R2 i2 h2 => ?_⟩
  have i3 := (i1.mono g2.p).vw R2
  have sH := (allP_sub R2).2
  rw [hK]
  split at h2
  · rename_i ds ev
    rw [ev] at i3
    obtain ⟨l, xs, rfl, hl, hx1⟩ := i3.lst_inv
    obtain ⟨b, ys, rfl, hb, hy1⟩ := i2.lst_inv
    obtain rfl := hy1.nil_inv
    exact ⟨l, b, xs, rfl, rfl, .inl ⟨.of (sH _ _ hl), .of (R2.sub _ _ hb)⟩, hQ _ _ _ _ _ (g1.trans g2) R2 .v (by rw [isEmpty_len hx1.length]; exact h2)⟩
  · rename_i ds ev
    rw [ev] at i3
    obtain ⟨l, xs, rfl, hl, hx1⟩ := i3.tup_inv
    obtain ⟨b, ys, rfl, hb, hy1⟩ := i2.tup_inv
    obtain rfl := hy1.nil_inv
    exact ⟨l, b, xs, rfl, rfl, .inr ⟨sqT_mono sH hl, sqT_mono R2.sub hb⟩, hQ _ _ _ _ _ (g1.trans g2) R2 .v (by rw [isEmpty_len hx1.length]; exact h2)⟩
  · exact h2.elim
theorem de_nil? (neg : Bool) (hK : X.K = E.K) (hu : X.A.units + 1 < cLine) (h1 : PE X a (up E W ta)) (h2 : PE X b (up E W tb)) (hm : behindInMarks (if neg then .NotEq else .Eq) b = false) : PE X (.Compare a [if neg then .NotEq else .Eq] [b] pos) (up E W (dNil? neg ta tb)) :=
  impE (pe_cmpR (opNil hu) h1 h2 hm) fun _ _ _ h => up_nil? hK h
theorem dt_nil? (neg : Bool) (hK : X.K = E.K) (hu : X.A.units + 1 < cLine) (h1 : PE X a (up E W ta)) (h2 : PE X b (up E W tb)) (hm : behindInMarks (if neg then .NotEq else .Eq) b = false) : PT X (.Compare a [if neg then .NotEq else .Eq] [b] pos) (upT E W (dTest (dNil? neg ta tb))) :=
  impT (pt_cmpR (opNil hu) h1 h2 hm) fun _ _ _ h => up_nil? hK (up_test h)
@[simp] def dAugI (i : Nat) (g : Int → Int → Int) (te : DE) : DST := fun De Γ => match Γ.s[i]? with
  | some (.d (.v (.int x))) => te De.ex Γ fun d Γ1 => match d with
    | .v (.int y) => De.nx (Γ1.set i (.d (.v (.int (g x y)))))
    | _ => False
  | _ => False
variable {x : Str} {te : DE} {op : Operator} {pos' : Pos}
theorem d_augI (i : Nat) {g : Int → Int → Int} (hN : X.N.Nodup) (hi : X.N[i]? = some x) (hx : Loc X.env.scope x) (he : PE X e (up E W te)) (ho : PIp X op (ipI g)) (hf : X.fn x = true ∨ X.env.scope.names.lookup x = some .local := by first | exact .inl rfl | exact .inr rfl | assumption) :
    PS X (.AugAssign (.Name x pos') op e pos) (upS E W (dAugI i g te)) := impS (ps_aug hN hi hx he ho hf) fun D σ H h => by
  obtain ⟨P, Γ, De, R, hT, L⟩ := h
  unfold dAugI at hT
  split at hT
  · rename_i n en
    obtain ⟨v, e1, iv⟩ := R.get en
    refine ⟨v, e1, P, Γ, _, _, R, hT, L.ex σ, fun d Γ1 w P1 H1 g1 R1 i1 h1 => ?_⟩
    split at h1
    · exact ⟨_, _, iv.v_inv, i1.v_inv, L.nx _ _ _ _ g1.p (R1.setD (i := i) (d := .v (.int _)) .v) h1⟩
    · exact h1.elim
  · exact hT.elim
variable {k : Nat} {f : Addr} {fd : FuncData} {ps : List Str} {C : ConM} {cs : List Nat}
theorem de_strS (hK : X.K = E.K) (hG : X.A.guards = some []) (hs : ∀ c ∈ cs, PySem.W.findIn E.K (.ref (E.cl c)) "__str__" = some (some (.ref f))) (hf : PySem.W.isFn E.K (.ref f) = true) (F : FnG X.prog X.w X.K X.mg X.base k f fd ps (spM E.K E.cl E.T C)) (hr : Room (k + 2) X.A) (hb : Bnd X.K fd ps 1 0 [] [])
    (hg : Gl X x) (hm : X.mg x = none) (hv : bootBuiltins x = some (.type "str")) (ha : PA X (e :: es) (upA E W tas)) (hn : x ≠ "__name__" := by decide) (hdb : (x == ("__debug__" : Str)) = false := by decide)
    (he : starEach (e :: es) X.env = (false, eval e X.env) :: starEach es X.env := by rfl) (hpl : (backTo pos (starEach es X.env)).any (·.1) = false := by rfl) : PE X (.Call (.Name x p) (e :: es) [] pos) (up E W (dOwnS cs C tas)) :=
  impE (pe_callTy (own_str hK hG hs hf F hr hb) hg hm hv ha hn hdb he hpl) fun _ _ _ h => up_ownS h
theorem de_reprS (hK : X.K = E.K) (hG : X.A.guards = some []) (hs : ∀ c ∈ cs, PySem.W.findIn E.K (.ref (E.cl c)) "__repr__" = some (some (.ref f))) (hf : PySem.W.isFn E.K (.ref f) = true) (F : FnG X.prog X.w X.K X.mg X.base k f fd ps (spM E.K E.cl E.T C)) (hr : Room (k + 2) X.A) (hb : Bnd X.K fd ps 1 0 [] [])
    (hg : Gl X x) (hm : X.mg x = none) (hv : bootBuiltins x = some (.builtin "repr")) (ha : PA X (e :: es) (upA E W tas)) (hn : x ≠ "__name__" := by decide) (hdb : (x == ("__debug__" : Str)) = false := by decide)
    (he : starEach (e :: es) X.env = (false, eval e X.env) :: starEach es X.env := by rfl) (hpl : (backTo pos (starEach es X.env)).any (·.1) = false := by rfl) : PE X (.Call (.Name x p) (e :: es) [] pos) (up E W (dOwnS cs C tas)) :=
  impE (pe_callB (own_repr hK hG hs hf F hr hb) hg hm hv ha hn hdb he hpl) fun _ _ _ h => up_ownS h
end
section
open PySem.W
variable {K : Frag} {C D : Addr} {nm qn : Str} {N : Addr} {bs : List Value} {sn : List Str} {sub : List Value} {ab : Bool} {col : Option Bool} {dd : Option Addr} {k0 k1 k2 k3 k5 : Option Value} {B nI iI : String} {bB : List Value}
theorem oex_of (FB : ExcBaseFacts B nI iI bB) (SF : StoreFacts B bB "object.__setattr__" "object") (hob : bB.contains (.type "object") = true) (xL : K.lookup C = some (excClassObj nm qn C N bs (.ref D :: bB) true sn sub ab col dd k0 k1 k2 k3 k5 nI))
    (sa : findIn K (.ref C) "__setattr__" = some (some (.builtin "object.__setattr__"))) (exC : subIn K (.ref C) (.type "BaseException") = some true) (tyC : typeIn K (.ref C) = some (.type "type")) (kC : keepIn K (.ref C) = true) : OexG K C :=
  ⟨⟨B, nI, iI, bB, _, nm, qn, N, bs, sn, sub, ab, col, dd, k0, k1, k2, k3, k5, FB, fun Y => by rw [List.contains_cons]; rfl, by rw [List.contains_cons, hob, Bool.or_true], fun z => by
    rw [PySem.refuseLoop_ref, PySem.refuseLoop_ref]; exact SF.passes z, xL⟩, sa, exC, tyC, kC⟩
theorem exm_of {A S : Addr} {b : Bool} (h1 : subIn K (.ref S) (.type "BaseException") = some true) (h2 : isClsIn K S = true) (h3 : typeIn K (.ref S) = some (.type "type")) (h4 : subIn K (.ref A) (.ref S) = some b) : exmOne K (.ref A) (.ref S) = some b := by
  have e1 : (subIn K (.ref S) (.type "BaseException") == some true) = true := by rw [h1] <;> rfl
  have e2 : ((clsIn K S).isSome && typeIn K (.ref S) == some (.type "type")) = true := by
    rw [show (clsIn K S).isSome = true from h2, h3] <;> rfl
  unfold exmOne
  rw [if_pos e1]
  exact (if_pos e2).trans h4
end
end DL

namespace DL
open PySem L2 PySem.Calls
section
variable {E : DC} {W : WX} {P P' H H' : Hp} {σ σ' : L2.St} {Γ Γ' : DS} {X : Cx}
variable {a b c e o : Expr} {es : List Expr} {ta tb tc te to ti : DE} {pos p apos p1 p2 pos2 : Pos} {tas tks : DA}
@[simp] def dDic0 : DE := fun x Γ Q => Q (.dic [] []) Γ
theorem de_dic0 : PE X (.Dict [] [] pos) (up E W dDic0) := impE pe_dnewK fun σ H Q h => by
  obtain ⟨P, Γ, x, Qd, R, hT, hx, hQ⟩ := h
  exact fun p hp => hQ _ _ _ _ _ (Gr.alloc R _ hp) (R.alloc _ hp) (.dic upd_same rfl .nil) hT
@[simp] def dDicO : DE := fun x Γ Q => ∀ a, Γ.m a = none → Q (.v (.ref a)) (Γ.put a (some (.dic [] [])))
theorem Gr.putNew (R : Rep E P H σ Γ) {p : Addr} {o : HO} {ob : Ob} (h : H p = none) : Gr σ Γ P H (Γ.put p (some ob)) P (upd H p o) := by
  refine ⟨Same.refl P, fun c u e => .inl ⟨u, e⟩, fun c u e _ _ => same_upd h c u e, same_dm (same_upd h), fun c u e => ?_⟩
  simp only [DS.put] at e
  by_cases z : c = p
  · subst z; exact .inr h
  · rw [if_neg z] at e; exact .inl ⟨u, e⟩
theorem Rep.putNew (R : Rep E P H σ Γ) {p : Addr} {o : HO} {ob : Ob} (h : H p = none) (hb : ObAt E.K E.cl P (upd H p o) p ob) : Rep E P (upd H p o) σ (Γ.put p (some ob)) :=
  R.own_put (R.pnone h) (fun c hc => upd_ne hc) (fun ps => by rw [h]; nofun) (fun ps => by rw [h]; nofun) hb (.inl (R.h0none h))
theorem de_dicO : PE X (.Dict [] [] pos) (up E W dDicO) := impE pe_dnewK fun σ H Q h => by
  obtain ⟨P, Γ, x, Qd, R, hT, hx, hQ⟩ := h
  exact fun p hp => hQ _ _ _ _ _ (Gr.putNew R hp) (R.putNew (ob := .dic [] []) hp ⟨[], upd_same, rfl, .nil⟩) .v (hT p (R.mnone hp))
@[simp] def dDicT : DE := fun x Γ Q => ∀ a, Γ.m a = none → Q (.v (.ref a)) (Γ.put a (some (.dtp [] [])))
theorem de_dicT : PE X (.Dict [] [] pos) (up E W dDicT) := impE pe_dnewT fun σ H Q h => by
  obtain ⟨P, Γ, x, Qd, R, hT, hx, hQ⟩ := h
  exact fun p hp => hQ _ _ _ _ _ (Gr.putNew R hp) (R.putNew (ob := .dtp [] []) hp ⟨[], upd_same, rfl, .nil⟩) .v (hT p (R.mnone hp))
end
section
open PySem.W
variable {M : Model} {A : Around} {E : Value → Shared → Prop} {s : Shared} {K : Frag} {x C : Addr} {ox : Obj} {od : Option Obj}
theorem truthy_inst {Q : Bool → Shared → Prop} (X : K.In s.heap) (I : InstAt s.heap x ox C od) (h1 : findIn K (.ref C) "__bool__" = some none) (h2 : findIn K (.ref C) "__len__" = some none) (h : Q true s) : wpAny M A (truthy (.ref x)) Q E s := by
  unfold truthy
  simp only [callSpecial?, specialOf]
  refine wpAny_bind (wpAny_bind (wpAny_bind (I.type.here ((looks_findIn X h1).here (wpAny_pure ?_)))))
  refine wpAny_bind (wpAny_bind (I.type.here ((looks_findIn X h2).here ?_)))
  exact wpAny_pure h
theorem bool_inst {prog : Program} {w : World} {Q : Value → Shared → Prop} (X : K.In s.heap) (I : InstAt s.heap x ox C od) (h1 : findIn K (.ref C) "__bool__" = some none) (h2 : findIn K (.ref C) "__len__" = some none) (h : Q (.bool true) s) (E : Value → Shared → Prop) :
    wpAny (model prog w) A (call (.type "bool") [.ref x]) Q E s := by
  refine PySem.call_bool_1 (S := fun A' R s' => (K.In s'.heap ∧ InstAt s'.heap x ox C od) ∧ R (.ok (.ret (.bool true))) s') (Meets.of_wp fun prog w A R s hs => ?_) ⟨⟨X, I⟩, rfl, h⟩
  obtain ⟨⟨X, I⟩, hs⟩ := hs
  have tt : ∀ {A : Around} {E : Value → Shared → Prop} {Q : Bool → Shared → Prop}, Q true s → wpAny (model prog w) A (truthy (.ref x)) Q E s := fun q => truthy_inst X I h1 h2 q
  have f1 := F.conv_sub_bool
  repeat (any_goals (first | assumption | (with_reducible refine tt ?_) | wp_step))
  all_goals first | exact ⟨_, rfl, hs⟩ | exact hs | skip
end
section
variable {E : DC} {W : WX} {P P' H H' : Hp} {σ σ' : L2.St} {Γ Γ' : DS} {X : Cx}
variable {e : Expr} {te : DE} {pos p : Pos} {cs : List Nat}
@[simp] def dBoolO (cs : List Nat) (te : DE) : DE := fun x Γ Q => te x Γ fun d Γ1 => match clsOf Γ1.m d with
  | some (c, _, _) => c ∈ cs ∧ Q (.v (.bl true)) Γ1
  | none => False
theorem de_boolO (hK : X.K = E.K) (hb : ∀ c ∈ cs, PySem.W.findIn E.K (.ref (E.cl c)) "__bool__" = some none) (hl : ∀ c ∈ cs, PySem.W.findIn E.K (.ref (E.cl c)) "__len__" = some none) (hg : Gl X "bool") (hm : X.mg "bool" = none) (ha : PE X e (up E W te))
    (hs : starEach [e] X.env = (false, eval e X.env) :: starEach [] X.env := by rfl) (hpl : (backTo pos (starEach [] X.env)).any (·.1) = false := by rfl) : PE X (.Call (.Name "bool" p) [e] [] pos) (up E W (dBoolO cs te)) :=
  impE (pe_callTy (r := fun xs H Q => ∃ c a dx fs, c ∈ cs ∧ xs = [.ref a] ∧ H a = some (.ins (E.cl c) dx fs) ∧ Q (.bl true) H) (fun pins s σ H xs us Q I r h => by
    obtain ⟨c, a, dx, fs, hc, rfl, ha, q⟩ := h
    obtain ⟨u, rfl, rfl⟩ := vals1 r
    obtain ⟨mA, J, _⟩ := ins_get I.hok ha
    obtain ⟨od, J, _⟩ := J.look
    exact bool_inst (K := X.K) I.kIn J (by rw [hK]; exact hb c hc) (by rw [hK]; exact hl c hc) ⟨.bl true, H, I, rfl, q⟩ _) hg hm (by rfl) (pa_cons ha pa_nil hs) (by decide) (by decide) hs hpl) fun σ H Q h => by
    obtain ⟨P, Γ, x, Qd, R, hT, hx, hQ⟩ := h
    refine ⟨P, Γ, x, _, R, hT, hx, fun d Γ1 v P1 H1 g1 R1 i1 h1 => ?_⟩
    split at h1
    · rename_i c ns ws ec
      obtain ⟨hc, h1⟩ := h1
      obtain ⟨q, dx, fs, rfl, hq, _, _, _⟩ := clsOf_ok R1 i1 ec
      exact ⟨c, q, dx, fs, hc, rfl, hq, hQ _ _ _ _ _ g1 R1 .v h1⟩
    · exact h1.elim
end
theorem perC {P : Nat → Prop} {n : Nat} (_ : n ≤ 100) (h1 : ∀ c, c < n → P c) (h2 : ∀ c, n ≤ c → c < 100 → P c) : ∀ c, c < 100 → P c := fun c h => if z : c < n then h1 c z else h2 c (by omega) h
section
variable {K : PySem.W.Frag} {cl : Nat → Addr} {x y : Addr}
theorem nfs : PySem.W.notFirst K x (.ref x) = true := by unfold PySem.W.notFirst; rw [beq_self_eq_true]; rfl
theorem nfo {t : Value} (h : PySem.W.subIn K t (.ref x) = some false) : PySem.W.notFirst K x t = true := by unfold PySem.W.notFirst; rw [h]; simp
theorem nf_of (ho : ∀ c, c < 100 → PySem.W.notFirst K x (.ref (cl c)) = true) (h1 : PySem.W.subIn K (.type "NoneType") (.ref x) = some false) (h2 : PySem.W.subIn K (.type "bool") (.ref x) = some false) (h3 : PySem.W.subIn K (.type "int") (.ref x) = some false)
    (h4 : PySem.W.subIn K (.type "str") (.ref x) = some false) (h5 : PySem.W.subIn K (.type "list") (.ref x) = some false) (h6 : PySem.W.subIn K (.type "tuple") (.ref x) = some false) (h7 : PySem.W.subIn K (.type "dict") (.ref x) = some false) :
    ∀ d t, tyD cl d = some t → PySem.W.notFirst K x t = true := fun d t e => by
  unfold tyD at e
  split at e
  case h_8 =>
    split at e
    · rename_i h; cases e; exact ho _ h
    · cases e
  all_goals try cases e
  · exact nfo h1
  · exact nfo h2
  · exact nfo h3
  · exact nfo h4
  · exact nfo h5
  · exact nfo h6
  · exact nfo h7
end
end DL

namespace DL
open PySem L2 LamX NdefX PyProof.Rows
section
variable {X : Cx} {pins : List (Addr × Obj)} {σ : L2.St} {H : Hp} {s : Shared}
structure Made (X : Cx) (pins : List (Addr × Obj)) (σ : L2.St) (T : List NTab) (params : Arguments) (body : Expr) (scope : Scope) (H : Hp) (f c' : Addr) (pm ctv : Value) (H1 : Hp) (s' : Shared) : Prop where
  inv : Inv X pins σ H1 s'
  ext : LamX.ExtN H H1
  dm : ∀ b, H1 b = none → H b = none
  tb : TabsN T H1
  obj : s'.heap.get? f = some (PySem.W.kla_obj "<lambda>" (X.env.qual ++ "<lambda>") params body scope (cloFrom X.env.cells scope.names []) pm c' ctv)
  new : H1 f = none
  nfr : f ∉ frs X.stack
  code : H1 c' = some (CodeO c' (X.env.qual ++ "<lambda>"))
theorem no_frame (I : Inv X pins σ H s) {f : Addr} (hf : s.heap.objs.size ≤ f) : f ∉ frs X.stack := fun z =>
  (List.mem_cons.mp (I.stkSub _ z)).elim (fun e => Nat.lt_irrefl _ (Nat.lt_of_lt_of_le I.lt (e ▸ hf))) fun e => I.nofs hf e
theorem lam_made {T : List NTab} {c Pt : Addr} {params : Arguments} {body : Expr} {scope : Scope} {pos : Pos} {E : Value → Shared → Prop} {Q : Value → Shared → Prop} (I : Inv X pins σ H s) (TB : TabB X.base X.mg c Pt) (hcode : X.env.code = .ref c)
    (hm : ∃ nm, (Pt, nm) ∈ T ∧ (∀ i j, nm i j = X.env.qual ++ "<lambda>") ∧ ∀ p ∈ T, p.1 = Pt → p.2 = nm) (hT : TabsN T H) (hdef : defaultsOf params X.env = ([], [])) (hfree : ∀ y ∈ scope.names, y.2 = .free → ∃ c, X.env.cells.lookup y.1 = some c)
    (h : ∀ f c' pm ctv H1 s', Made X pins σ T params body scope H f c' pm ctv H1 s' → Q (.ref f) s') : wpAny (model X.prog X.w) X.A (eval (.Lambda params body scope pos) X.env) Q E s := by
  obtain ⟨nm, hm, hn, hu⟩ := hm
  obtain ⟨ps, hP, ht, ha⟩ : TabN H Pt nm := hT _ hm
  have hP' : s.heap.get? Pt = some { cls := .none, data := .fields ps } := I.hok Pt _ hP
  refine PySem.W.kla_eval hdef ?_
  rcases hc : codeAmong pos ps.toList with _ | cv
  · refine PySem.W.kla_makeFunction (mg := X.mg) (c := c) (P := Pt) (ps := ps) (closure_ok hfree) I.ok.glob (I.mod.glob.keeps I.bk) hcode (TB.code.keeps I.bk) hP' ht hc TB.gP (TB.bm.keeps I.bk) fun c' ctv h' tk hx hge hlt ⟨c2, oc, vs, t, e2, hoc, hd, hv⟩ htb => ?_
    cases e2
    have nC : H c' = none := I.hok.fresh hge
    have I1 := inv_table (t' := tk) (more := #[rawInt pos.line, rawInt pos.col, .ref c']) (h' := h'.push (PySem.W.kla_obj "<lambda>" (X.env.qual ++ "<lambda>") params body scope (cloFrom X.env.cells scope.names []) ((X.mg "__name__").getD .none) c' ctv)) I hP
      (fun b o hb e => Heap.get?_push_of_some _ (hx b o hb e)) (Heap.get?_push_of_some _ htb) hge ⟨oc, vs, t, Heap.get?_push_of_some _ hoc, hd, hv⟩
    have old : ∀ b o, H b = some o → b ≠ Pt → upd (upd H Pt (.tbl (ps ++ #[rawInt pos.line, rawInt pos.col, .ref c']))) c' (CodeO c' (X.env.qual ++ "<lambda>")) b = some o := fun b o e n => by
      rw [upd_ne (ne_of_none e nC), upd_ne n]; exact e
    have hE : LamX.ExtN H (upd (upd H Pt (.tbl (ps ++ #[rawInt pos.line, rawInt pos.col, .ref c']))) c' (CodeO c' (X.env.qual ++ "<lambda>"))) := fun b o e n => old b o e fun z => by
      rw [z, hP] at e; cases e; exact n ps rfl
    have hsz := Nat.le_trans hge (Nat.le_of_lt hlt)
    refine h h'.objs.size c' _ ctv _ _ ⟨I1, hE, fun b e => ?_, fun p hp => ?_, Heap.get?_push_size _ rfl, ?_, no_frame I hsz, upd_same⟩
    · cases q : H b with
      | none => rfl
      | some o =>
        by_cases z : b = Pt
        · rw [z, upd_ne (ne_of_none hP nC), upd_same] at e; cases e
        · rw [old b o q z] at e; cases e
    · by_cases hb : p.1 = Pt
      · rw [hu p hp hb, hb]
        refine ⟨_, by rw [upd_ne (ne_of_none hP nC), upd_same], ?_, fun p' cv hcv => ?_⟩
        · rw [Array.toList_append]; exact PySem.TriplesOk_snoc _ _ _ _ ht
        · rw [Array.toList_append] at hcv
          rcases among_app _ ht hcv with z | z
          · obtain ⟨c0, e1, e2⟩ := ha p' cv z
            exact ⟨c0, e1, hE _ _ e2 codeO_ne⟩
          · exact ⟨c', z, by rw [hn]; exact upd_same⟩
      · obtain ⟨ps', a1, a2, a3⟩ := hT p hp
        exact ⟨ps', old _ _ a1 hb, a2, fun p' cv hcv => (a3 p' cv hcv).imp fun c0 e => ⟨e.1, hE _ _ e.2 codeO_ne⟩⟩
    · rw [upd_ne (Nat.ne_of_gt hlt), upd_ne (Nat.ne_of_gt (Nat.lt_of_lt_of_le (Heap.lt_size hP') hsz))]
      exact I.hok.fresh hsz
  · obtain ⟨c', e, hco⟩ := ha pos cv hc
    subst e
    rw [hn] at hco
    exact PySem.W.kla_makeFunctionHit (mg := X.mg) (c := c) (P := Pt) (ps := ps) (closure_ok hfree) I.ok.glob (I.mod.glob.keeps I.bk) hcode (TB.code.keeps I.bk) hP' ht hc (TB.bm.keeps I.bk) fun ctv h' tk hx hsz =>
      h h'.objs.size c' _ ctv H _ ⟨I.kept fun b o e => Heap.get?_push_of_some _ (hx b o e), LamX.ExtN.refl H, fun _ e => e, hT, Heap.get?_push_size _ rfl, I.hok.fresh hsz, no_frame I hsz, hco⟩
abbrev gotCx (X : Cx) (Eg : XK) (Ng : List Str) (qg : Str) (sg : Scope) (g : Addr) (cdg : Value) (s : Shared) (H : Hp) : Cx := cxOf (L2.CX X.prog X.w) X.prog X.w X.K X.mg X.base Ng qg sg g cdg X.A X.stack s H Eg
theorem pe_actAt {T : List NTab} {Eg : XK} {Ng : List Str} {qg : Str} {sg : Scope} {g f c' : Addr} {cdg pm ctv : Value} {params : Arguments} {body : Expr} {scope : Scope} {k i : Nat} {a : Str} {pn : List (Addr × Obj)} {xe : Value → Shared → Prop} {W : WX} {tb : XK → TE} {p1 p2 : Pos} {H0 : Hp}
    (M : Made X pins σ T params body scope H0 f c' pm ctv H s) (L : LamS X.env.scope scope)
    (hbind : bindArgs (PySem.W.kla_fn "<lambda>" (X.env.qual ++ "<lambda>") params body scope (cloFrom X.env.cells scope.names []) pm (.ref c') ctv) ⟨[], []⟩ = pure [])
    (tk : Takes ((gotCx X Eg Ng qg sg g cdg s H).tr pn xe) W) (hr : Room (k + 1) (X.A.deeper (envOfC qg sg s.heap.objs.size g cdg)))
    (hbody : ∀ (A : Around) (outer : List Env) (s : Shared) (H : Hp) (E : XK), A.guards = some [] → Room k (A.deeper (lamEnv X scope s.heap.objs.size f c')) → PE (lamCx X A outer s H E scope f c') body (tb E)) (hG : X.A.guards = some [])
    (hN : Ng[i]? = some a) (hv : Vis sg a) (hd : (a == ("__debug__" : Str)) = false := by decide) (hcd : (a == ("__classdict__" : Str)) = false := by decide) :
    PE ((gotCx X Eg Ng qg sg g cdg s H).tr pn xe) (.Call (.Name a p1) [] [] p2)
      (fun σZ HZ Q => σZ[i]? = some (some (.ref f)) ∧ HZ c' = some (CodeO c' (X.env.qual ++ "<lambda>")) ∧ tb (WE W σZ) σ HZ Q) := ⟨fun pinsZ sZ σZ HZ Q IZ ⟨hs, hc, ht⟩ => by
  refine wpAny_Call_Name_kw (thn ((pe_var (pos := p1) (i := i) hN hv hd hcd).run pinsZ sZ σZ HZ (fun v H1 => v = .ref f ∧ H1 = HZ) IZ ⟨.ref f, hs, rfl, rfl⟩) fun u s1 ⟨v, H1, I1, r1, q1, q2⟩ => ?_)
  rw [q1] at r1
  rw [q2] at I1
  obtain rfl : u = Value.ref f := r1
  have of1 := I1.base.keep f _ M.obj M.new M.nfr (fun z => nomatch (show f ∈ ([] : List Addr) from z))
  obtain ⟨⟨oc, vs, t, hoc, hdc, hvc⟩, _, _⟩ := I1.hok c' _ hc
  have rc : codeAny (model X.prog X.w) (X.A.deeper (envOfC qg sg s.heap.objs.size g cdg)) (.call (.ref f) ⟨[], []⟩) (CR (L2.CX X.prog X.w) (envOfC qg sg s.heap.objs.size g cdg :: X.stack) X.prog X.w HZ s1 Q (WE W σZ)) s1 := by
    refine PySem.W.kla_callFunE hr.depth of1 rfl L.co L.gen rfl ⟨c', oc, vs, t, rfl, hoc, hdc, hvc⟩ ?_
    rw [hbind]
    refine wpAny_pure (wpAny_newFunctionEnv (fun y hy => (L.own y hy).2) (fun y hy => absurd hy (by simp)) (fun h₁ hns hsb => ⟨I1.nolimit.fresh _ hsb, ?_⟩) L.kind)
    have J := lam_start2 (A := X.A.deeper (envOfC qg sg s.heap.objs.size g cdg)) (outer := envOfC qg sg s.heap.objs.size g cdg :: X.stack) (E := WE W σZ) (f := f) (c' := c') (tk := s1.toks + ([] : List (Str × Value)).length) M.inv L I1.env0 hr.hd I1.base hns fun b o e => hsb.extBut b o (Nat.ne_of_lt (Heap.lt_size e)) (Heap.get?_push_of_some _ e)
    refine PySem.W.kla_codeExpr (wpAny_mono ((hbody (X.A.deeper (envOfC qg sg s.heap.objs.size g cdg)) _ s1 HZ _ hG (hr.deeper _)).run [] _ _ HZ Q J ht) (fun v s' hq => ?_) fun e s' hq => hq)
    obtain ⟨w', H', J', rv, q⟩ := hq
    exact ⟨w', H', J'.os, J'.bare, J'.base, J'.hok, rv, q⟩
  refine PySem.W.callWith_F0 ⟨_, _, _, _, of1⟩ (wpAny_call (codeAny_mono rc fun r s' hq => ?_))
  rcases r with e | fl
  · exact passAt tk σZ pinsZ HZ s1 e s' I1 hq
  · cases fl with
    | ret u => exact I1.after hq
    | next => exact False.elim hq
    | brk => exact False.elim hq
    | cont => exact False.elim hq⟩
end
abbrev Act := (XD → Mm → Prop) → Mm → (D → Mm → Prop) → Prop
abbrev ConA := Act → Mm → (D → Mm → Prop) → (XD → Mm → Prop) → Prop
@[simp] def dAct (f : Addr) (act : Act) : DE := fun x Γ Q => Γ.s[0]? = some (.d (.v (.ref f))) ∧ act (fun e m' => x e ⟨Γ.s, m'⟩) Γ.m fun d m' => Q d ⟨Γ.s, m'⟩
@[simp] def actOf (tb : DE) (Γ : DS) : Act := fun xx m' k => tb (fun e Γ' => xx e Γ'.m) ⟨Γ.s, m'⟩ fun d Γ' => k d Γ'.m
@[simp] def dLam (C : ConA) (tb : DE) : DE := fun x Γ Q => C (actOf tb Γ) Γ.m (fun d m' => Q d ⟨Γ.s, m'⟩) fun e m' => x e ⟨Γ.s, m'⟩
section
variable {E : DC} {W : WX} {P P' H H' : Hp} {σ σ' : L2.St} {Γ Γ' : DS} {X : Cx}
def upB (E : DC) (tb : DE) (Ex : XK) : TE := fun σ H Q => ∃ P0 H0 io, up ⟨E.K, E.cl, E.T, P0, H0, io⟩ (WD Ex) tb σ H Q
theorem pe_upB {e : Expr} {tb : DE} {Ex : XK} (h : ∀ P0 H0 io, PE X e (up ⟨E.K, E.cl, E.T, P0, H0, io⟩ (WD Ex) tb)) : PE X e (upB E tb Ex) := ⟨fun pins s σ H Q I ⟨P0, H0, io, z⟩ => (h P0 H0 io).run pins s σ H Q I z⟩
theorem act_de {Z : Cx} {e : Expr} {tb : DE} {f c' : Addr} {q : Str} {P2 : Hp} (R : Rep E P H σ Γ) (hP : Same P P2) (hc : H c' = some (CodeO c' q))
    (h : PE Z e (fun σZ HZ Q => σZ[0]? = some (some (.ref f)) ∧ HZ c' = some (CodeO c' q) ∧ upB E tb (WE W σZ) σ HZ Q)) :
    PE Z e (up ⟨E.K, E.cl, E.T, P2, H, fun a => ∃ b, Γ.m a = some b⟩ W (dAct f (actOf tb Γ))) := impE h fun σZ HZ Q ⟨P3, Γ3, x, Qd, R3, ⟨h0, ha⟩, hx, hQ⟩ => by
  have s3 : Same P P3 := hP.trans R3.p0
  refine ⟨?_, ?_, P3, HZ, fun a => ∃ b, Γ3.m a = some b, P3, ⟨Γ.s, Γ3.m⟩, fun e Γ' => x e ⟨Γ3.s, Γ'.m⟩, fun d Γ' => Qd d ⟨Γ3.s, Γ'.m⟩, ⟨R3.sub, R3.nt, R3.tb, Same.refl P3, fun a o e _ _ => e, fun a o e => ⟨o, e⟩, fun a o e => .inl ⟨o, e⟩, R.len, fun i s o e1 e2 => (R.sl i s o e1 e2).mono s3, fun a b e => ⟨(R3.st a b e).1, (R3.st a b e).2.1, .inr ⟨b, e⟩⟩⟩, ha, ?_, ?_⟩
  · have hl := R3.len
    have h1 : 0 < σZ.length := by rw [hl]; exact (List.getElem?_eq_some_iff.mp h0).1
    obtain ⟨v, e1, e2⟩ := R3.sl 0 _ _ h0 (List.getElem?_eq_getElem h1)
    rw [List.getElem?_eq_getElem h1, e1, e2.v_inv]
  · refine R3.h0 c' _ hc codeO_ne ?_
    rintro ⟨b, z⟩
    have ob := (R.st c' b z).2.1
    cases b with
    | lst ds => obtain ⟨_, e, _⟩ := ob; rw [hc] at e; cases e
    | dic ks ds => obtain ⟨_, e, _⟩ := ob; rw [hc] at e; cases e
    | dtp ks ds => obtain ⟨_, e, _⟩ := ob; rw [hc] at e; cases e
    | ins c dx ns ds => obtain ⟨_, e, _⟩ := ob; rw [hc] at e; cases e
  · exact fun e Γ' P' H' cls d R' xi z => hx e ⟨Γ3.s, Γ'.m⟩ P' H' cls d (R3.back R'.toBack) xi z
  · exact fun d Γ' v P' H' g R' i z => hQ d ⟨Γ3.s, Γ'.m⟩ v P' H' (.back R'.toBack) (R3.back R'.toBack) i z
end
section
variable {P : Program} {w : World} {K : PySem.W.Frag} {mg : Str → Option Value} {base : Heap} {cl : Nat → Addr} {T : List NTab} {x : Str} {st : Stmt} {g : Addr} {fd : FuncData} {N : List Str} {k : Nat} {a : Str}
structure GotG (P : Program) (w : World) (K : PySem.W.Frag) (mg : Str → Option Value) (base : Heap) (cl : Nat → Addr) (T : List NTab) (k : Nat) (x : Str) (st : Stmt) (g : Addr) (fd : FuncData) (N : List Str) (a : Str) (C : ConA) : Prop where
  fx : FunX K x x st g fd
  sc : FnScope N [a] (defScope st)
  n0 : N[0]? = some a
  vis : Vis (defScope st) a
  nd : (a == ("__debug__" : Str)) = false
  nc : (a == ("__classdict__" : Str)) = false
  go : ∀ (cdv : Value) (A : Around) (outer : List Env) (s : Shared) (H : Hp) (E : DC) (Ex : XK), E.K = K → E.cl = cl → E.T = T → A.guards = some [] → Room k (A.deeper (envOfC x (defScope st) s.heap.objs.size g cdv)) → ∀ (f : Addr) (act : Act),
    (∀ (W : WX) (pn : List (Addr × Obj)) (xe : Value → Shared → Prop) (p1 p2 : Pos) (P2 : Hp), Takes ((cxOf (L2.CX P w) P w K mg base N x (defScope st) g cdv A outer s H Ex).tr pn xe) W → Same E.P0 P2 →
      PE ((cxOf (L2.CX P w) P w K mg base N x (defScope st) g cdv A outer s H Ex).tr pn xe) (.Call (.Name a p1) [] [] p2) (up { E with P0 := P2 } W (dAct f act))) →
    ∃ t, PSs (cxOf (L2.CX P w) P w K mg base N x (defScope st) g cdv A outer s H Ex) (defBody st) (upS E (WD Ex) t) ∧ ∀ m Q R, C act m Q R → t (conM Q R) (entryM N.length [.v (.ref f)] m)
end
section
variable {E : DC} {W : WX} {X : Cx} {cl : Nat → Addr}
theorem lam_de {C : ConA} {tb : DE} {x a : Str} {st : Stmt} {g c Pt : Addr} {fd : FuncData} {k : Nat} {Ng : List Str} {params : Arguments} {body : Expr} {scope : Scope} {p lpos pos : Pos}
    (G : GotG X.prog X.w X.K X.mg X.base E.cl E.T (k + 1) x st g fd Ng a C) (hK : X.K = E.K) (hG : X.A.guards = some []) (hg : Gl X x) (hm : X.mg x = some (.ref g)) (hk : PySem.W.keepIn X.K (.ref g) = true) (hb : L2.Binds X.K fd [a] [])
    (TB : TabB X.base X.mg c Pt) (hcode : X.env.code = .ref c) (hmT : ∃ nm, (Pt, nm) ∈ E.T ∧ (∀ i j, nm i j = X.env.qual ++ "<lambda>") ∧ ∀ p ∈ E.T, p.1 = Pt → p.2 = nm) (hr : Room (k + 2) X.A) (L : LamS X.env.scope scope) (hdef : defaultsOf params X.env = ([], []))
    (hbind : ∀ (q : Str) (cl : List (Str × Addr)) (pm cv ctv : Value), bindArgs (PySem.W.kla_fn "<lambda>" q params body scope cl pm cv ctv) ⟨[], []⟩ = pure []) (tk : Takes X W)
    (hbody : ∀ (A : Around) (outer : List Env) (s : Shared) (H : Hp) (Ex : XK) (f c' : Addr) (P0 H0 : Hp) (io : Addr → Prop), A.guards = some [] → Room k (A.deeper (lamEnv X scope s.heap.objs.size f c')) → PE (lamCx X A outer s H Ex scope f c') body (up ⟨E.K, E.cl, E.T, P0, H0, io⟩ (WD Ex) tb))
    (hdb : (x == ("__debug__" : Str)) = false := by decide) :
    PE X (.Call (.Name x p) [.Lambda params body scope lpos] [] pos) (up E W (dLam C tb)) := ⟨fun pins s σ H Q I ⟨P, Γ, xx, Qd, R, hT, hx, hQ⟩ => by
  refine wpAny_Call_Name_kw (ld_glob I hg hm ?_ hdb)
  refine PySem.W.callWith_K (h₀ := X.base) I.ok.mod.kin hk ?_ (by rfl) (by rfl)
  show wpAny _ _ (spliced ((false, eval (.Lambda params body scope lpos) X.env) :: backTo pos (starEach [] X.env))) _ _ s
  refine Calls.spliced_cons (lam_made (T := E.T) I TB hcode hmT R.tb hdef (L.has I.ok) fun f c' pm' ctv H1 s' M => ?_)
  refine Calls.spliced_nil ⟨M.inv.kIn, ?_⟩
  have dm1 : ∀ a o, H a = some o → ∃ o', H1 a = some o' := fun a o e => by
    cases q : H1 a with
    | none => rw [M.dm a q] at e; cases e
    | some o' => exact ⟨o', rfl⟩
  have sub1 : Same P H1 := fun a o e => M.ext a o (R.sub a o e) fun ps z => R.nt a ps (by rw [e, z])
  have R1 : Rep E P H1 σ Γ := R.grow (Same.refl P) sub1 R.nt M.tb M.ext dm1 fun a o e => .inl ⟨o, e⟩
  have g1 : Gr σ Γ P H Γ P H1 := .grow (Same.refl P) M.ext dm1 fun a o e => .inl ⟨o, e⟩
  obtain ⟨⟨oc, od, dV, kV, doc, pm, an, cdv, ct, osl, efd, lk, hcd⟩⟩ := G.fx
  subst efd
  have rc : codeAny (model X.prog X.w) X.A (.call (.ref g) ⟨[.ref f], []⟩) (CR (L2.CX X.prog X.w) X.stack X.prog X.w H1 s' Q (WE W σ)) s' := by
    refine run_ofS (N := Ng) (ps := [a]) (us := [.ref f]) (vs := [.ref f]) lk hcd G.sc hr M.inv.env0 (hb s' [.ref f] M.inv.kIn rfl) (.cons rfl .nil) rfl fun hr' => ?_
    obtain ⟨t, ht, hq⟩ := G.go cdv X.A X.stack s' H1 ⟨E.K, E.cl, E.T, P, H1, fun a => ∃ b, Γ.m a = some b⟩ (WE W σ) hK.symm rfl rfl hG hr' f (actOf tb Γ) fun W' pn xe p1 p2 P2 tk' hP =>
      act_de (E := E) (P := P) (H := H1) (σ := σ) (Γ := Γ) R1 hP M.code (pe_actAt (k := k) M L (hbind _ _ _ _ _) tk' hr' (fun A outer s H Ex hGA hrA => pe_upB fun P0 H0 io => hbody A outer s H Ex f c' P0 H0 io hGA hrA) hG G.n0 G.vis G.nd G.nc)
    refine ⟨_, ht, P, _, _, start_rep sub1 R.nt M.tb R1.stok (.cons .v .nil) Ng (Nat.succ_le_of_lt (List.getElem?_eq_some_iff.mp G.n0).1), hq Γ.m _ _ hT, ⟨fun σ' Γ' P2 H2 s2 R2 ⟨m', l, q⟩ => ?_, fun d v σ' Γ' P2 H2 s2 R2 i2 ⟨m', l, q⟩ => ?_, fun _ _ _ _ _ _ z => z.elim, fun _ _ _ _ _ _ z => z.elim, fun σ' e Γ' P2 H2 cls d R2 xi ⟨m', l, q⟩ => ?_⟩⟩
    · exact hQ _ _ _ _ _ (g1.trans (.back (R2.toBack.le l))) (R1.back (R2.toBack.le l)) .v q
    · exact hQ _ _ _ _ _ (g1.trans (.back (R2.toBack.le l))) (R1.back (R2.toBack.le l)) i2 q
    · exact hx e _ _ _ cls d (R1.back (R2.toBack.le l)) xi q
  refine wpAny_call (codeAny_mono rc fun r s2 hq => ?_)
  rcases r with e | fl
  · exact passAt tk σ pins H1 s' e s2 M.inv hq
  · cases fl with
    | ret u => exact M.inv.after hq
    | next => exact False.elim hq
    | brk => exact False.elim hq
    | cont => exact False.elim hq⟩
end
section
variable {E : DC} {W : WX} {P H : Hp} {σ : L2.St} {X : Cx} {tg iter : Expr} {te : DE}
@[simp] def dItS (te : DE) : DI := fun x Γ Q => te x Γ fun d Γ1 => match d with
  | .v (.str z) => Q ((signs z).map fun c => .v (.str c)) Γ1
  | _ => False
theorem its_ok {z : Str} : ItD E.K E.cl E.T (Its z) P ((signs z).map fun c => .v (.str c)) := fun m Pc H s1 s2 nt tb so => by
  have hl : ((signs z).map fun c => D.v (.str c)).length = z.cps.size := by simp [signs]
  refine ⟨fun i hi => (show z.cps.size ≤ i by rw [hl] at hi; exact hi), fun i d hd => ⟨(show i < z.cps.size by rw [← hl]; exact (List.getElem?_eq_some_iff.mp hd).1), fun x H' ⟨eH, c, e1, e2⟩ => ?_⟩⟩
  subst eH; subst e2
  refine ⟨Pc, .same s2 nt tb so, ?_⟩
  have : d = .v (.str ⟨#[c]⟩) := by
    have h1 : z.cps.toList[i]? = some c := by rw [Array.getElem?_toList]; exact e1
    simp [signs, h1] at hd
    exact hd.symm
  rw [this]; exact .v
theorem di_str (he : PE X iter (up E W te)) : PI X tg iter (upI E W (dItS te)) := ⟨fun pins s σ H R I h => by
  refine (pi_str he).run pins s σ H R I ?_
  obtain ⟨P, Γ, x, Qd, Rp, hT, hx, hQ⟩ := h
  refine ⟨P, Γ, x, _, Rp, hT, hx, fun d Γ1 v P1 H1 g1 R1 i1 h1 => ?_⟩
  split at h1
  · rename_i z
    exact ⟨z, i1.v_inv, hQ _ _ _ _ _ g1 R1 its_ok h1⟩
  · exact h1.elim⟩
theorem tkL {A : Around} {outer : List Env} {s : Shared} {H : Hp} {Ex : XK} {scope : Scope} {f c' : Addr} : Takes (lamCx X A outer s H Ex scope f c') (WD Ex) := takes_of rfl rfl rfl rfl
end
end DL

namespace DL
open PySem L2 PySem.Calls PySem.W LamX NdefX
structure TabsIn (K : Frag) (h : Heap) (cs : List (Addr × Addr)) : Prop where
  at_ : ∀ p ∈ cs, h.get? p.2 = some { cls := .none, data := .fields #[] }
  nk : ∀ p ∈ cs, K.lookup p.2 = none
  hd : ∀ p ∈ cs, CodeHd h p.1 p.2
def knownT (a : Addr) (o : Option HO) (cs : List (Addr × Addr)) : Hp := fun b => if b = a then o else if b ∈ cs.map (·.2) then some (.tbl #[]) else none
section
variable {P : Program} {w : World} {K : Frag} {mg mb : Str → Option Value} {k : Nat} {fa a : Addr} {fd : FuncData} {x : Str} {sp : Sp} {s : Shared} {vs : List Value} {n : Nat} {cs : List (Addr × Addr)}
theorem tab_ne (TI : TabsIn K s.heap cs) {b : Addr} {o : Obj} (e : s.heap.get? b = some o) (d : o.data ≠ .fields #[]) : b ∉ cs.map (·.2) := fun z => by
  obtain ⟨p, hp, ep⟩ := List.mem_map.mp z
  rw [← ep, TI.at_ p hp] at e
  cases e; exact d rfl
theorem law_coreT (o : Option HO) (TI : TabsIn K s.heap cs)
    (KX : K.In s.heap) (hns : s.heap.Ns mainGlobals mg) (hb : s.heap.Ns builtinsNs mb) (hbb : ∀ y : Str, y ≠ "__name__" → mb y = bootBuiltins y) (hlim : s.heap.NoLimit) (hg : s.gens = #[])
    (hbm : ∃ (bm : Addr) (ob : Obj), mg "__builtins__" = some (.ref bm) ∧ bm ≠ builtinsNs ∧ s.heap.get? bm = some ob ∧ ob.cls = .type "module" ∧ ob.dict = some builtinsNs ∧ ob.data = .plain)
    (ha : s.heap.get? a = some { cls := .type "list", data := .seq vs.toArray n }) (hr : Room k callerA)
    (F : ∀ base : Heap, K.In base → base.Ns mainGlobals mg → (∀ p ∈ cs, TabB base mg p.1 p.2) → FnG P w K mg base k fa fd [x] sp) (hbind : ∀ (s : Shared) (u : Value), BindsTo s fd ⟨[u], []⟩ [(x, u)])
    (hO : ∀ u, o = some u → ∃ o' u', u = .frz o' u') (hok : HOk P w (knownT a o cs) s.heap) (hK : o ≠ none → K.lookup a = none)
    (hsp : sp [.ref a] (knownT a o cs) (fun v _ => v = .bl true) E0) :
    codeAny (model P w) callerA (.call (.ref fa) ⟨[.ref a], []⟩) (fun r s' => r = .ok (.ret (.bool true)) ∧ OldK s.heap s'.heap ∧ s'.os = s.os ∧ PyProof.Rows.AllBare s'.gens) s := by
  have aT : a ∉ cs.map (·.2) := tab_ne TI ha (fun z => by cases z)
  -- what is no list and no table is not known
  have hid : ∀ {b : Addr} {u : Obj}, s.heap.get? b = some u → u.data ≠ .fields #[] → (∀ ws m, u.data ≠ .seq ws m) → knownT a o cs b = none := fun {b u} e d1 d2 => by
    unfold knownT
    have nb := tab_ne TI e d1
    have na : b ≠ a := fun z => by rw [z, ha] at e; cases e; exact d2 _ _ rfl
    rw [if_neg na, if_neg nb]
  have base_of : ∀ {b : Addr} {u : Obj}, s.heap.get? b = some u → u.data ≠ .fields #[] → (∀ ws m, u.data ≠ .seq ws m) → (hidT s.heap (knownT a o cs)).get? b = some u := fun e d1 d2 => hidT_get e (hid e d1 d2)
  have ns : ∀ {b : Addr} {m : Str → Option Value}, s.heap.Ns b m → (hidT s.heap (knownT a o cs)).Ns b m := fun {b m} ⟨u, es, ep, e, d, r⟩ => ⟨u, es, ep, base_of e (by rw [d]; nofun) (by intro _ _; rw [d]; nofun), d, r⟩
  have kin : K.In (hidT s.heap (knownT a o cs)) := fun b u e => hidT_get (KX b u e) (by
    unfold knownT
    by_cases na : b = a
    · rw [if_pos na]
      cases q : o with
      | none => rfl
      | some v => rw [na, hK (by rw [q]; nofun)] at e; cases e
    · rw [if_neg na]
      by_cases nb : b ∈ cs.map (·.2)
      · obtain ⟨p, hp, ep⟩ := List.mem_map.mp nb
        rw [← ep, TI.nk p hp] at e; cases e
      · rw [if_neg nb])
  have lim : (hidT s.heap (knownT a o cs)).NoLimit := let ⟨mc, h1, h2⟩ := hlim; ⟨mc, ns h1, h2⟩
  have TB : ∀ p ∈ cs, TabB (hidT s.heap (knownT a o cs)) mg p.1 p.2 := fun p hp => by
    refine ⟨?_, ?_, fun z => ?_⟩
    · obtain ⟨u, us, file, tf, flags, tg, inF, text, tt, e1, r1, r2, r3, r⟩ := TI.hd p hp
      exact ⟨u, us, file, tf, flags, tg, inF, text, tt, base_of e1 (fun z => by rw [r2] at z; cases z; simp at r3) (fun _ _ z => by rw [r2] at z; cases z), r1, r2, r3, r⟩
    · obtain ⟨bm, ob, b1, b2, b3, b4, b5, b6⟩ := hbm
      refine ⟨bm, ob, b1, b2, fun q => ?_, fun q => ?_, base_of b3 (by rw [b6]; nofun) (by intro _ _; rw [b6]; nofun), b4, b5, b6⟩
      · obtain ⟨u, es, ep, e, hd, _⟩ := hns
        rw [q, e] at b3; cases b3
        rw [hd] at b6; cases b6
      · rw [q, TI.at_ p hp] at b3; cases b3; cases b6
    · obtain ⟨u, es, ep, e, hd, _⟩ := hns
      rw [z, TI.at_ p hp] at e; cases e; cases hd
  have env : Env0 P w K mg (hidT s.heap (knownT a o cs)) callerA [] s (knownT a o cs) :=
    { frames := rfl, mod := ⟨kin, ns hns, ⟨mb, ns hb, hbb⟩, lim⟩, bs := fun b o e => of_hidT e, bsz := Nat.le_of_eq (hidT_size _ _), funs := trivial, frf := fun b hb => (List.not_mem_nil hb).elim, hok := hok, bare := .of_eq hg }
  refine codeAny_mono ((F _ kin (ns hns) TB).go callerA [] s (knownT a o cs) ⟨[.ref a], []⟩ [.ref a] [.ref a] _ E0 rfl hr env (hbind s (.ref a)) (.cons rfl .nil) hsp) fun c s' hc => ?_
  match c, hc with
  | .error e, q =>
    obtain ⟨_, _, _, _, _, _, _, _, _, _, _, _, z⟩ := q
    exact z.elim
  | .ok .next, q => exact (show False from q).elim
  | .ok .brk, q => exact (show False from q).elim
  | .ok .cont, q => exact (show False from q).elim
  | .ok (.ret u), q =>
    obtain ⟨v, H', os, bare, un, hok', rv, qv⟩ := q
    have ev : v = .bl true := qv
    subst ev
    obtain rfl : u = Value.bool true := rv
    have key : ∀ b u, b ∉ cs.map (·.2) → s.heap.get? b = some u → s'.heap.get? b = some u := fun b u nb e => by
      by_cases na : b = a
      · cases q : o with
        | none => exact un.keep b u e (by unfold knownT; rw [if_pos na, q]) (fun y => nomatch y) fun y => nomatch y
        | some w' =>
          obtain ⟨o', u', rfl⟩ := hO w' q
          have z : knownT a o cs b = some (.frz o' u') := by unfold knownT; rw [if_pos na, q]
          have e1 := (hok b _ z).1
          have e2 := (hok' b _ (un.frzs b o' u' z)).1
          rw [e] at e1; cases e1
          exact e2
      · exact un.keep b u e (by unfold knownT; rw [if_neg na, if_neg nb]) (fun y => nomatch y) fun y => nomatch y
    have grown : ∀ p ∈ cs, ∃ more : Array Value, s'.heap.get? p.2 = some { cls := .none, data := .fields more } := fun p hp => by
      have hm : p.2 ∈ cs.map (·.2) := List.mem_map.mpr ⟨p, hp, rfl⟩
      have na : p.2 ≠ a := fun z => aT (z ▸ hm)
      obtain ⟨more, z⟩ := un.tbls p.2 #[] (by unfold knownT; rw [if_neg na, if_pos hm])
      exact ⟨_, hok' p.2 _ z⟩
    refine ⟨rfl, ⟨fun b u e => ?_, fun b u e => ?_⟩, os, bare⟩
    · by_cases nb : b ∈ cs.map (·.2)
      · obtain ⟨p, hp, rfl⟩ := List.mem_map.mp nb
        obtain ⟨more, hm⟩ := grown p hp
        rw [TI.at_ p hp] at e; cases e
        exact .inr (.inl ⟨((TI.hd p hp).tab (TI.at_ p hp)).isCodeTable, rfl, #[], more, rfl, by rw [Array.empty_append]; exact hm⟩)
      · exact .inl (key b u nb e)
    · by_cases nb : b ∈ cs.map (·.2)
      · obtain ⟨p, hp, rfl⟩ := List.mem_map.mp nb
        obtain ⟨more, hm⟩ := grown p hp
        exact ⟨_, hm⟩
      · exact ⟨u, key b u nb e⟩
end
theorem walkGT {l : OpenLaw} {n k : Nat} {q : Program} {loose : List Str} {XP : (Str → Option Value) → Heap → Prop} {YP : World → Heap → Prop} {d : DefRec} {K : Params → Frag} {sp : World → Sp} {x : Str} {cs : List (Addr × Addr)}
    (hn : l.most = some n) (hn2 : n ≤ sizeLine) (hdf : d.params.defaults = []) (hr : Room k callerA) (hY : ∀ (w : World) (h : Heap), YP w h → (K w.params).In h) (hT : ∀ (w : World) (h : Heap), YP w h → TabsIn (K w.params) h cs)
    (F : ∀ (w : World) (mg : Str → Option Value) (fa : Addr) (h : Heap), (K w.params).In h → h.Ns mainGlobals mg → mg d.name = some (.ref fa) →
      ∃ fd : FuncData, (∀ (s : Shared) (u : Value), BindsTo s fd ⟨[u], []⟩ [(x, u)]) ∧ ∀ base : Heap, (K w.params).In base → base.Ns mainGlobals mg → (∀ p ∈ cs, TabB base mg p.1 p.2) → FnG l.prog w (K w.params) mg base k fa fd [x] (sp w))
    (hsp : ∀ (w : World) (H : Hp) (a : Addr) (ns : List Int), ns.length ≤ n → SqL (K w.params) H a (ns.map V.int) → (∀ p ∈ cs, H p.2 = some (.tbl #[])) → sp w [.ref a] H (fun v _ => v = .bl true) E0) :
    WalkO q loose XP YP l.row.toRowW d [] (fun f vs => PySem.call f vs) := by
  refine Att.attach_call hn hdf fun w s₀ s₁ mg mb fa o pm cd doc a vs ns G Y ho hd hcd hmg hobj hints hlen hg => ?_
  have KX := hY w _ Y
  have TI := hT w _ Y
  obtain ⟨fd, hbi, hF⟩ := F w mg fa _ KX G.T.g hmg
  have rv := vals_ints hints
  have hl : (ns.map V.int).length ≤ sizeLine := by rw [List.length_map]; omega
  have aT : a ∉ cs.map (·.2) := tab_ne TI hobj (fun z => by cases z)
  have tabs : ∀ o, ∀ p ∈ cs, knownT a o cs p.2 = some (.tbl #[]) := fun o p hp => by
    have hm : p.2 ∈ cs.map (·.2) := List.mem_map.mpr ⟨p, hp, rfl⟩
    have na : p.2 ≠ a := fun z => aT (z ▸ hm)
    unfold knownT
    rw [if_neg na, if_pos hm]
  have okT : ∀ o, (∀ u, o = some u → ObjOk l.prog w (knownT a o cs) s₁.heap a u) → HOk l.prog w (knownT a o cs) s₁.heap := fun o h b u z => by
    unfold knownT at z
    by_cases na : b = a
    · rw [if_pos na] at z; rw [na]; exact h u z
    · rw [if_neg na] at z
      by_cases nb : b ∈ cs.map (·.2)
      · rw [if_pos nb] at z; cases z
        obtain ⟨p, hp, rfl⟩ := List.mem_map.mp nb
        exact TI.at_ p hp
      · rw [if_neg nb] at z; cases z
  cases hk : (K w.params).lookup a with
  | some o' =>
    have e := KX a o' hk
    rw [hobj] at e; cases e
    refine law_coreT none TI KX G.T.g G.T.b G.T.builtins G.T.nolimit hg G.T.bmain hobj hr hF hbi (fun u z => nomatch z) (okT none fun u z => nomatch z) (fun z => absurd rfl z) (hsp w _ a ns hlen (.inr ⟨_, vs.toArray, _, hk, rfl, rfl, rfl, ?_, by simpa using rv⟩) (tabs none))
    have := rv.length
    rw [List.size_toArray]; omega
  | none =>
    refine law_coreT (some (.frz { cls := .type "list", data := .seq vs.toArray } (.lst (ns.map V.int)))) TI KX G.T.g G.T.b G.T.builtins G.T.nolimit hg G.T.bmain hobj hr hF hbi (fun u z => by cases z; exact ⟨_, _, rfl⟩) (okT _ fun u z => by cases z; exact ⟨hobj, hl, vs, _, rv, hobj⟩) (fun _ => hk)
      (hsp w _ a ns hlen (.inl (.inr ⟨{ cls := .type "list", data := .seq vs.toArray }, if_pos rfl⟩)) (tabs _))
theorem tabsIn_of {K : Frag} {h : Heap} {cs : List (Addr × Addr)} (X : K.In h) (ht : ∀ P ∈ cs.map (·.2), h.get? P = some (tabObj #[])) (hd : (cs.all fun p => codeHdIn K p.1 p.2 && (K.lookup p.2).isNone) = true) : TabsIn K h cs where
  at_ := fun p hp => ht _ (List.mem_map.mpr ⟨p, hp, rfl⟩)
  nk := fun p hp => by
    have := List.all_eq_true.mp hd p hp
    rw [Bool.and_eq_true] at this
    exact Option.isNone_iff_eq_none.mp this.2
  hd := fun p hp => by
    have := List.all_eq_true.mp hd p hp
    rw [Bool.and_eq_true] at this
    exact codeHd_of_K X this.1
end DL

namespace DL
open PySem PySem.Spec PyProof.Rows L2

theorem flyingZ_keeps {B h h' : Heap} {l : List Env} {e : Addr} {Z : Obj → Prop} (R : HandSPX.FlyingZ B l e Z h) (k : ∀ b o, h.get? b = some o → h'.get? b = some o) : HandSPX.FlyingZ B l e Z h' := by
  obtain ⟨f1, f2, f3, oe, ws, T, oT, ts, he, hz, hd, h1, hn, hne, hT, hdT, h3⟩ := R
  exact ⟨fun b o q => k b o (f1 b o q), f2, Heap.FunFrames.of_keeps (fun b o q _ => ⟨o, k b o q, rfl⟩) f3, oe, ws, T, oT, ts, k _ _ he, hz, hd, h1, hn, hne, k _ _ hT, hdT, h3⟩

inductive Tst (X : Cx) : Expr → List Value → Prop
  | one {x : Str} {c : Value} {np : Pos} (hc : Names X x c) : Tst X (.Name x np) [c]
  | three {x1 x2 x3 : Str} {c1 c2 c3 : Value} {p1 p2 p3 tpos : Pos} {kk : Nat} (h1 : Names X x1 c1) (h2 : Names X x2 c2) (h3 : Names X x3 c3) : Tst X (.Tuple [.Name x1 p1, .Name x2 p2, .Name x3 p3] kk tpos) [c1, c2, c3]
section
variable {X : Cx}
theorem Names.read {Y : Cx} {x : Str} {c : Value} {np : Pos} {pins : List (Addr × Obj)} {σ : L2.St} {H : Hp} {s : Shared} {Q : Value → Shared → Prop} {E : Value → Shared → Prop} (hc : Names X x c) (S : Inv Y pins σ H s) (hg : Gl X x → Gl Y x) (hm : Y.mg = X.mg) (q : Q c s) :
    wpAny (model Y.prog Y.w) Y.A (eval (.Name x np) Y.env) Q E s := by
  obtain ⟨g, hdbg, m | ⟨m, hv, hnn⟩⟩ := hc
  · exact ld_glob S (hg g) (by rw [hm]; exact m) q hdbg
  · exact ld_blt S (hg g) (by rw [hm]; exact m) hv q hnn hdbg
theorem Tst.run {t : Expr} {cs : List Value} (T : Tst X t cs) {a : Addr} {oe : Obj} {pn pins : List (Addr × Obj)} {σ : L2.St} {H : Hp} {s : Shared} {cls : Value} {b : Bool} {Q : Bool → Shared → Prop} {E : Value → Shared → Prop}
    (S : Inv (X.suite a ((a, oe) :: pn)) pins σ H s) (LT : PySem.W.Looks (model X.prog X.w) s.heap (typeOf (.ref a)) cls) (hx : PySem.W.exmAny X.K cls cs = some b)
    (q : ∀ h', (∀ p o, s.heap.get? p = some o → h'.get? p = some o) → Q b { s with heap := h' }) :
    wpAny (model X.prog X.w) (X.A.mark (some (.ref a))) (eval t X.env) (fun c s₁ => wpAny (model X.prog X.w) (X.A.mark (some (.ref a))) (excMatches (.ref a) c) Q E s₁) E s := by
  cases T with
  | one hc =>
    refine Names.read (Y := X.suite a ((a, oe) :: pn)) hc S id rfl ?_
    obtain ⟨b1, d1, x1, y1, z1⟩ := PySem.W.exmAny_cons hx
    have w : some false = some d1 := y1
    cases w
    have z : b = b1 := by rw [z1]; cases b1 <;> rfl
    subst z
    exact (PySem.W.exm_one S.kIn LT x1).here (q s.heap fun _ _ z => z)
  | three h1 h2 h3 =>
    refine wpAny_Tuple ?_
    refine wpAny_items_cons (Names.read (Y := X.suite a ((a, oe) :: pn)) h1 S id rfl ?_)
    refine wpAny_items_cons (Names.read (Y := X.suite a ((a, oe) :: pn)) h2 S id rfl ?_)
    refine wpAny_items_cons (Names.read (Y := X.suite a ((a, oe) :: pn)) h3 S id rfl ?_)
    refine wpAny_items_nil ⟨by size_fits, ?_⟩
    rename_i c1 c2 c3 _ _ _ _ _
    have kp : ∀ q o, s.heap.get? q = some o → (s.heap.push { cls := .type "tuple", data := .seq [c1, c2, c3].toArray }).get? q = some o := fun _ _ z => Heap.get?_push_of_some _ z
    exact (PySem.W.exm_tup3 (S.kIn.keeps kp) (LT.keeps kp) (Heap.get?_push_size s.heap rfl) hx).here (q _ kp)
end
structure Cla where
  cs : List Value
  i : Option Nat
  ts : Addr → Value → Option Addr → TS
def endsAt (i : Option Nat) (D : Ends) : Ends := match i with
  | none => D
  | some i => { nx := fun σ' H' => D.nx (σ'.set i none) H', rt := D.rt, bk := fun σ' H' => D.bk (σ'.set i none) H', ct := fun σ' H' => D.ct (σ'.set i none) H' }
def slotAt (i : Option Nat) (a : Addr) (σ : L2.St) : L2.St := match i with
  | none => σ
  | some i => σ.set i (some (.ref a))
def wAll (K : PySem.W.Frag) (Wout : WX) (D : Ends) : List Cla → WX
  | [] => Wout
  | c :: r => fun cls d σ H => ∃ b, PySem.W.exmAny K cls c.cs = some b ∧ (b = true → ∀ a, H a = none → c.ts a cls d (endsAt c.i D) (slotAt c.i a σ) H) ∧ (b = false → wAll K Wout D r cls d σ H)
inductive HdsAll (X : Cx) : List ExceptHandler → List Cla → Prop
  | nil : HdsAll X [] []
  | plain {t : Expr} {cs : List Value} {ts : Addr → Value → Option Addr → TS} {b₀ : Stmt} {suite : List Stmt} {pos' : Pos} {hds : List ExceptHandler} {l : List Cla} (hc : Tst X t cs)
      (hsu : ∀ (a : Addr) (oe : Obj) (cls : Value) (d : Option Addr) (pn : List (Addr × Obj)), Zc cls d oe → (∃ vs, oe.data = .fields vs) → PSs (X.suite a ((a, oe) :: pn)) (b₀ :: suite) (ts a cls d)) (r : HdsAll X hds l) :
      HdsAll X (.ExceptHandler (some t) none (b₀ :: suite) pos' :: hds) (⟨cs, none, ts⟩ :: l)
  | named {t : Expr} {cs : List Value} {n : Str} {i : Nat} {ts : Addr → Value → Option Addr → TS} {b₀ : Stmt} {suite : List Stmt} {pos' : Pos} {hds : List ExceptHandler} {l : List Cla} (hN : X.N.Nodup) (hi : X.N[i]? = some n) (hln : X.env.kindOf n = some .local) (hc : Tst X t cs)
      (hsu : ∀ (a : Addr) (oe : Obj) (cls : Value) (d : Option Addr) (pn : List (Addr × Obj)), Zc cls d oe → (∃ vs, oe.data = .fields vs) → PSs (X.suite a ((a, oe) :: pn)) (b₀ :: suite) (ts a cls d)) (r : HdsAll X hds l) :
      HdsAll X (.ExceptHandler (some t) (some n) (b₀ :: suite) pos' :: hds) (⟨cs, some i, ts⟩ :: l)
section
variable {X : Cx} {body : List Stmt} {h₀ : ExceptHandler} {hds : List ExceptHandler} {l : List Cla} {pos : Pos} {tb : WX → TS} {Wout : WX}
theorem ps_try_all (hs : X.stack = X.env :: X.outer) (hf : X.env.frame = some X.env.locals) (tk : Takes X Wout)
    (hb : ∀ (W : WX) (pn : List (Addr × Obj)) (xe : Value → Shared → Prop), Takes (X.tr pn xe) W → PassesOwn (model X.prog X.w) X.A X.env xe → PSs (X.tr pn xe) body (tb W))
    (hh : HdsAll X (h₀ :: hds) l) : PS X (.Try body (h₀ :: hds) [] [] pos) (fun D σ H => tb (wAll X.K Wout D l) D σ H) := by
  refine ⟨fun pins s σ H D I h => ?_⟩
  have ok := I.ok
  have hfr : X.A.frames = some (X.env :: X.outer) := by rw [ok.frames, hs]
  refine wpAny_Try_except ?_
  refine wpAny_mono ((hb (wAll X.K Wout D l) (X.pn ++ pins) (fun e s₁ => wpAny (model X.prog X.w) X.A (noteFrame e X.env) (fun _ s₂ => wpAny (model X.prog X.w) X.A (setFlight e none) (fun _ s₃ =>
    wpAny (model X.prog X.w) X.A (handleBy e X.env (h₀ :: hds)) (SP X pins D) X.xe s₃) X.xe s₂) X.xe s₁) (fun u s' xx => ?_) PassesOwn.looking).run [] s σ H D (I.toTry _) h) (fun f s1 hsp => ?_) (fun e s1 he => he)
  · obtain ⟨a, B, sI, pins', σ', H', cls, d, rfl, J', nb, up, sky, na, os, ag, w⟩ := xx
    have J : Inv X pins σ' H' sI := J'.ofTry ok
    have sky' : Sky B (X.env :: X.outer) a (Zc cls d) X.env.locals s'.heap := by rw [← hs]; exact sky
    show wpAny (model X.prog X.w) X.A (noteFrame (.ref a) X.env) _ _ _
    refine Sky.land Zc.steady hfr hf sky' fun h3 fl3 up3 => ?_
    have notFr : ∀ {h : Heap} {o : Obj} {vs : Array Value}, h.FunFrames B (X.env :: X.outer) → h.get? a = some o → o.data = .fields vs → a ∉ frs (X.env :: X.outer) := fun {h o vs} ff e dd hm => by
      obtain ⟨_, o', e', hnf⟩ := ff.mem hm
      rw [e] at e'; cases e'
      exact hnf _ dd
    have go : ∀ {hds' : List ExceptHandler} {l' : List Cla}, HdsAll X hds' l' → wAll X.K Wout D l' cls d σ' H' → ∀ h3, HandSPX.FlyingZ B (X.env :: X.outer) a (Zc cls d) h3 → s'.heap.UpToSlots h3 →
        wpAny (model X.prog X.w) X.A (handleBy (.ref a) X.env hds') (SP X pins D) X.xe { s' with heap := h3 } := by
      intro hds' l' hk
      induction hk with
      | nil =>
        intro w h3 fl3 up3
        refine wpAny_handleBy_nil ?_
        obtain ⟨k1, k2, k3, oe, vs, T, oT, ts', he, hz, hd, h1, hr⟩ := id fl3
        unfold PySem.passOn
        refine wpAny_bind (wpAny_field he hd h1 ?_)
        rw [if_neg (show ¬ ((Value.ref T == Value.none) = true) from by simp)]
        have fin : wpAny (model X.prog X.w) X.A (setFlight (.ref a) X.env.frame) (fun _ s4 => wpAny (model X.prog X.w) X.A (throw (.ref a) : Sem Flow) (SP X pins D) X.xe s4) X.xe { s' with heap := h3 } := by
          rw [hf]
          refine HandSPX.setFlight_upZ fl3 fun h4 hh4 up4 => wpAny_throw (tk _ _ ?_)
          exact ⟨a, B, sI, pins, σ', H', cls, d, rfl, J, nb, (up.trans up3).trans up4, .inr (.inr (by rw [hs]; exact hh4)), na, os, ag, w⟩
        first
          | exact wpAny_bind (wpAny_pure (wpAny_bind fin))
          | exact wpAny_bind fin
      | @plain t cs ts b₀ suite pos' hds2 l2 hc hsu r ih =>
        intro w h3 fl3 up3
        obtain ⟨b, hb1, hyes, hno⟩ := w
        have J3 : Inv X pins σ' H' { s' with heap := h3 } := J.landed nb fl3.1 (up.trans up3) os ag
        obtain ⟨oe3, vs3, he3, hz3, hd3⟩ := fl3.there
        have nfr := notFr fl3.2.2.1 he3 hd3
        have nL : a ≠ X.env.locals := fun z => nfr (List.mem_filterMap.mpr ⟨X.env, List.mem_cons_self, by rw [hf, z]⟩)
        have nF : a ∉ X.fs := fun hm => by
          obtain ⟨e, he, q⟩ := List.mem_filterMap.mp hm
          exact nfr (List.mem_filterMap.mpr ⟨e, List.mem_cons_of_mem _ he, q⟩)
        have S3 := J3.suite he3 hd3 na nL nF
        refine wpAny_handleBy_cons (codeAny_handlers_test ?_) (by intro q; cases q)
        have LT : PySem.W.Looks (model X.prog X.w) h3 (typeOf (.ref a)) cls := fun A Q E s k q => wpAny_typeOf_ref (k _ _ he3) (by rw [hz3.1]; exact q)
        refine Tst.run hc S3 LT hb1 fun h' kp => ?_
        have fl' := flyingZ_keeps fl3 kp
        have up' := up3.trans (Heap.UpToSlots.of_keeps kp)
        cases b with
        | true =>
          refine codeAny_handlers_suite ?_
          refine HandSPX.lands_againZ fl' fun h4 fl4 up4 => ?_
          have J4 : Inv X pins σ' H' { s' with heap := h4 } := J.landed nb fl4.1 ((up.trans up').trans up4) os ag
          obtain ⟨oe4, vs4, he4, hz4, hd4⟩ := fl4.there
          have S4 := J4.suite he4 hd4 na nL nF
          refine wpAny_mono ((hsu a oe4 cls d (X.pn ++ pins) hz4 ⟨_, hd4⟩).run [] _ _ H' _ S4 (hyes rfl a na)) (fun f s6 hsp => ?_) (fun _ _ z => False.elim z)
          cases f with
          | next =>
            obtain ⟨σ6, H6, S6, q6⟩ := hsp
            exact ⟨_, _, S6.unsuite ok, q6⟩
          | brk =>
            obtain ⟨σ6, H6, S6, q6⟩ := hsp
            exact ⟨_, _, S6.unsuite ok, q6⟩
          | cont =>
            obtain ⟨σ6, H6, S6, q6⟩ := hsp
            exact ⟨_, _, S6.unsuite ok, q6⟩
          | ret u =>
            obtain ⟨v6, σ6, H6, S6, r6, q6⟩ := hsp
            exact ⟨_, _, _, S6.unsuite ok, r6, q6⟩
        | false =>
          show wpAny _ X.A (handleBy (.ref a) X.env hds2) _ _ _
          exact ih (hno rfl) h' fl' up'
      | @named t cs n i ts b₀ suite pos' hds2 l2 hN hi hln hc hsu r ih =>
        intro w h3 fl3 up3
        obtain ⟨b, hb1, hyes, hno⟩ := w
        have hloc : Loc X.env.scope n := .inl hln
        have J3 : Inv X pins σ' H' { s' with heap := h3 } := J.landed nb fl3.1 (up.trans up3) os ag
        obtain ⟨oe3, vs3, he3, hz3, hd3⟩ := fl3.there
        have nfr := notFr fl3.2.2.1 he3 hd3
        have nL : a ≠ X.env.locals := fun z => nfr (List.mem_filterMap.mpr ⟨X.env, List.mem_cons_self, by rw [hf, z]⟩)
        have nF : a ∉ X.fs := fun hm => by
          obtain ⟨e, he, q⟩ := List.mem_filterMap.mp hm
          exact nfr (List.mem_filterMap.mpr ⟨e, List.mem_cons_of_mem _ he, q⟩)
        have S3 := J3.suite he3 hd3 na nL nF
        refine wpAny_handleBy_cons (codeAny_handlers_test ?_) (by intro q; cases q)
        have LT : PySem.W.Looks (model X.prog X.w) h3 (typeOf (.ref a)) cls := fun A Q E s k q => wpAny_typeOf_ref (k _ _ he3) (by rw [hz3.1]; exact q)
        refine Tst.run hc S3 LT hb1 fun h' kp => ?_
        have fl' := flyingZ_keeps fl3 kp
        have up' := up3.trans (Heap.UpToSlots.of_keeps kp)
        cases b with
        | true =>
          refine codeAny_handlers_suite_as ?_
          refine HandSPX.lands_againZ fl' fun h4 fl4 up4 => ?_
          have J4 : Inv X pins σ' H' { s' with heap := h4 } := J.landed nb fl4.1 ((up.trans up').trans up4) os ag
          obtain ⟨oe4, vs4, he4, hz4, hd4⟩ := fl4.there
          have S4 := J4.suite he4 hd4 na nL nF
          refine store_ok (X := X.suite a ((a, oe4) :: (X.pn ++ pins))) (v := .ref a) S4 hN hi hloc rfl (fun s5 S5 => ?_) (.inr hln)
          refine wpAny_mono ((hsu a oe4 cls d (X.pn ++ pins) hz4 ⟨_, hd4⟩).run [] s5 _ H' _ S5 (hyes rfl a na)) (fun f s6 hsp => ?_) (fun _ _ z => False.elim z)
          have end_ : ∀ {σ6 : L2.St} {H6 : Hp} {Q : Shared → Prop}, Inv (X.suite a ((a, oe4) :: (X.pn ++ pins))) [] σ6 H6 s6 → (∀ s7, Inv X pins (σ6.set i none) H6 s7 → Q s7) →
              wpAny (model X.prog X.w) X.A (do bindName X.env n .none; unbindBehindTheSuite X.env n pos') (fun _ s7 => Q s7) X.xe s6 := fun {σ6 H6 Q} S6 hq => gone_ok (S6.unsuite ok) hN hi hln hq
          cases f with
          | next =>
            obtain ⟨σ6, H6, S6, q6⟩ := hsp
            exact end_ S6 fun s7 J7 => ⟨_, _, J7, q6⟩
          | brk =>
            obtain ⟨σ6, H6, S6, q6⟩ := hsp
            exact end_ S6 fun s7 J7 => ⟨_, _, J7, q6⟩
          | cont =>
            obtain ⟨σ6, H6, S6, q6⟩ := hsp
            exact end_ S6 fun s7 J7 => ⟨_, _, J7, q6⟩
          | ret u =>
            obtain ⟨v6, σ6, H6, S6, r6, q6⟩ := hsp
            exact end_ S6 fun s7 J7 => ⟨_, _, _, J7, r6, q6⟩
        | false =>
          show wpAny _ X.A (handleBy (.ref a) X.env hds2) _ _ _
          exact ih (hno rfl) h' fl' up'
    exact go hh w h3 fl3 up3
  · cases f with
    | next =>
      obtain ⟨σ', H', J', q⟩ := hsp
      exact wpAny_execs_nil ⟨σ', H', J'.ofTry ok, q⟩
    | brk =>
      obtain ⟨σ', H', J', q⟩ := hsp
      exact ⟨σ', H', J'.ofTry ok, q⟩
    | cont =>
      obtain ⟨σ', H', J', q⟩ := hsp
      exact ⟨σ', H', J'.ofTry ok, q⟩
    | ret u =>
      obtain ⟨v, σ', H', J', r, q⟩ := hsp
      exact ⟨v, σ', H', J'.ofTry ok, r, q⟩
end
@[simp] def catAny : List (Nat → Option Bool) → Nat → Option Bool
  | [], _ => some false
  | c :: r, n => match c n, catAny r n with
    | some a, some b => some (a || b)
    | _, _ => none
theorem cat_any {K : PySem.W.Frag} {cl : Nat → Addr} : ∀ {cats : List (Nat → Option Bool)} {cs : List Value}, cats.length = cs.length → (∀ (i : Nat) cat cv, cats[i]? = some cat → cs[i]? = some cv → ∀ c b, cat c = some b → PySem.W.exmOne K (.ref (cl (100 + c))) cv = some b) →
    ∀ c b, catAny cats c = some b → PySem.W.exmAny K (.ref (cl (100 + c))) cs = some b
  | [], [], _, _, c, b, e => e
  | cat :: cats, cv :: cs, hl, h, c, b, e => by
    unfold catAny at e
    split at e
    · rename_i a' b' e1 e2
      cases e
      have q1 := h 0 cat cv rfl rfl c _ e1
      have q2 := cat_any (cats := cats) (cs := cs) (by simpa using hl) (fun i ct v w1 w2 => h (i + 1) ct v w1 w2) c _ e2
      show (match PySem.W.exmOne K _ cv, PySem.W.exmAny K _ cs with | some a, some b => some (a || b) | _, _ => none) = _
      rw [q1, q2]
    · cases e
  | [], _ :: _, hl, _, _, _, _ => by cases hl
  | _ :: _, [], hl, _, _, _, _ => by cases hl
structure DCl where
  cat : Nat → Option Bool
  i : Option Nat
  ts : XD → Addr → DST
@[simp] def dSufE (i : Option Nat) (De : DEnds) : DEnds := match i with
  | none => { De with ex := fun _ _ => False }
  | some i => deNo De i
@[simp] def dSufS (i : Option Nat) (a : Addr) (Γ : DS) : DS := match i with
  | none => Γ
  | some i => Γ.set i (.d (.v (.ref a)))
@[simp] def dHds (De : DEnds) : List DCl → XC
  | [] => De.ex
  | c :: r => fun e Γ' => match c.cat e.c with
    | some true => ∀ a, c.ts e a (dSufE c.i De) (dSufS c.i a Γ')
    | some false => dHds De r e Γ'
    | none => False
@[simp] def dTryAll (l : List DCl) (tb : DST) : DST := fun De Γ => tb { De with ex := dHds De l } Γ
section
variable {E : DC} {X : Cx} {W : WX} {body : List Stmt} {h₀ : ExceptHandler} {hds : List ExceptHandler} {pos : Pos} {tbs : DST}
abbrev sufT (E : DC) (cat : Nat → Option Bool) (ts : XD → Addr → DST) : Addr → Value → Option Addr → TS := fun a cls d D σ H => ∃ e P1, cat e.c = some true ∧ XIs E.K E.cl P1 P1 e cls d ∧ upS { E with P0 := P1 } noW (ts e a) D σ H
inductive HdX (X : Cx) (E : DC) : List ExceptHandler → List DCl → List Cla → Prop
  | nil : HdX X E [] [] []
  | plain {t : Expr} {cs : List Value} {cat : Nat → Option Bool} {ts : XD → Addr → DST} {b₀ : Stmt} {suite : List Stmt} {pos' : Pos} {hds : List ExceptHandler} {l : List DCl} {k : List Cla} (hc : Tst X t cs)
      (hcat : ∀ c b, cat c = some b → PySem.W.exmAny X.K (.ref (E.cl (100 + c))) cs = some b)
      (hsu : ∀ (a : Addr) (oe : Obj) (cls : Value) (d : Option Addr) (pn : List (Addr × Obj)) (e : XD) (P1 : Hp), Zc cls d oe → (∃ vs, oe.data = .fields vs) → cat e.c = some true → XIs E.K E.cl P1 P1 e cls d → PSs (X.suite a ((a, oe) :: pn)) (b₀ :: suite) (upS { E with P0 := P1 } noW (ts e a)))
      (r : HdX X E hds l k) : HdX X E (.ExceptHandler (some t) none (b₀ :: suite) pos' :: hds) (⟨cat, none, ts⟩ :: l) (⟨cs, none, sufT E cat ts⟩ :: k)
  | named {t : Expr} {cs : List Value} {cat : Nat → Option Bool} {n : Str} {i : Nat} {ts : XD → Addr → DST} {b₀ : Stmt} {suite : List Stmt} {pos' : Pos} {hds : List ExceptHandler} {l : List DCl} {k : List Cla} (hN : X.N.Nodup) (hi : X.N[i]? = some n) (hln : X.env.kindOf n = some .local) (hc : Tst X t cs)
      (hcat : ∀ c b, cat c = some b → PySem.W.exmAny X.K (.ref (E.cl (100 + c))) cs = some b)
      (hsu : ∀ (a : Addr) (oe : Obj) (cls : Value) (d : Option Addr) (pn : List (Addr × Obj)) (e : XD) (P1 : Hp), Zc cls d oe → (∃ vs, oe.data = .fields vs) → cat e.c = some true → XIs E.K E.cl P1 P1 e cls d → PSs (X.suite a ((a, oe) :: pn)) (b₀ :: suite) (upS { E with P0 := P1 } noW (ts e a)))
      (r : HdX X E hds l k) : HdX X E (.ExceptHandler (some t) (some n) (b₀ :: suite) pos' :: hds) (⟨cat, some i, ts⟩ :: l) (⟨cs, some i, sufT E cat ts⟩ :: k)
theorem HdX.all {l : List DCl} {k : List Cla} {hds : List ExceptHandler} (h : HdX X E hds l k) : HdsAll X hds k := by
  induction h with
  | nil => exact .nil
  | plain hc hcat hsu r ih => exact .plain hc (fun a oe cls d pn hz hfd => ⟨fun pins s σ H D I ⟨e, P1, h1, h2, h⟩ => (hsu a oe cls d pn e P1 hz hfd h1 h2).run pins s σ H D I h⟩) ih
  | named hN hi hln hc hcat hsu r ih => exact .named hN hi hln hc (fun a oe cls d pn hz hfd => ⟨fun pins s σ H D I ⟨e, P1, h1, h2, h⟩ => (hsu a oe cls d pn e P1 hz hfd h1 h2).run pins s σ H D I h⟩) ih
theorem HdX.wish {De : DEnds} {D : Ends} {P : Hp} {σ : L2.St} {Γ : DS} {H : Hp} (R : Rep E P H σ Γ) (L : SLk E W P De D) {l : List DCl} {k : List Cla} {hds : List ExceptHandler} (h : HdX X E hds l k) :
    ∀ (σ' : L2.St) (e : XD) (Γ' : DS) (P' H' : Hp) (cls : Value) (d : Option Addr), Rep { E with P0 := P } P' H' σ' Γ' → XIs E.K E.cl P' H' e cls d → dHds De l e Γ' → wAll X.K W D k cls d σ' H' := by
  induction h with
  | nil => intro σ' e Γ' P' H' cls d R' xi q; exact L.ex σ' _ _ _ _ _ _ (R.unP R') xi q
  | plain hc hcat hsu r ih =>
    intro σ' e Γ' P' H' cls d R' xi q
    have R1 := R.unP R'
    have sP : Same P P' := R'.p0
    obtain ⟨rfl, xi2⟩ := id xi
    unfold dHds at q
    dsimp only at q
    split at q
    · rename_i ec
      refine ⟨true, hcat _ _ ec, fun _ a ha => ⟨e, P', ec, xi, P', _, _, R1.reP, q a, ?_⟩, (fun z => nomatch z)⟩
      exact ⟨fun σ'' Γ'' P'' H'' s R'' q => L.nx _ _ _ _ (sP.trans s) (R1.unP R'') q, fun d v σ'' Γ'' P'' H'' s R'' i q => L.rt _ _ _ _ _ _ (sP.trans s) (R1.unP R'') i q, fun σ'' Γ'' P'' H'' s R'' q => L.bk _ _ _ _ (sP.trans s) (R1.unP R'') q, fun σ'' Γ'' P'' H'' s R'' q => L.ct _ _ _ _ (sP.trans s) (R1.unP R'') q, fun _ _ _ _ _ _ _ _ _ z => z.elim⟩
    · rename_i ec
      exact ⟨false, hcat _ _ ec, (fun z => nomatch z), fun _ => ih σ' e _ _ _ _ _ R' xi q⟩
    · exact q.elim
  | @named t cs cat n i ts b₀ suite pos' hds2 l2 k2 hN hi hln hc hcat hsu r ih =>
    intro σ' e Γ' P' H' cls d R' xi q
    have R1 := R.unP R'
    have sP : Same P P' := R'.p0
    obtain ⟨rfl, xi2⟩ := id xi
    unfold dHds at q
    dsimp only at q
    split at q
    · rename_i ec
      refine ⟨true, hcat _ _ ec, fun _ a ha => ⟨e, P', ec, xi, P', _, _, (R1.setD (i := i) (d := .v (.ref a)) .v).reP, q a, ?_⟩, (fun z => nomatch z)⟩
      have un : ∀ {P'' H'' : Hp} {σ'' : L2.St} {Γ'' : DS}, Rep { E with P0 := P' } P'' H'' σ'' Γ'' → Rep E P'' H'' σ'' Γ'' := fun R'' => R1.unP R''
      exact ⟨fun σ'' Γ'' P'' H'' s R'' q => L.nx _ _ _ _ (sP.trans s) ((un R'').setNo i none) q, fun d v σ'' Γ'' P'' H'' s R'' i q => L.rt _ _ _ _ _ _ (sP.trans s) (un R'') i q, fun σ'' Γ'' P'' H'' s R'' q => L.bk _ _ _ _ (sP.trans s) ((un R'').setNo i none) q, fun σ'' Γ'' P'' H'' s R'' q => L.ct _ _ _ _ (sP.trans s) ((un R'').setNo i none) q, fun _ _ _ _ _ _ _ _ _ z => z.elim⟩
    · rename_i ec
      exact ⟨false, hcat _ _ ec, (fun z => nomatch z), fun _ => ih σ' e _ _ _ _ _ R' xi q⟩
    · exact q.elim
def HdY (X : Cx) (E : DC) (hds : List ExceptHandler) (l : List DCl) : Prop := ∃ k, HdX X E hds l k
theorem d_tryAll {l : List DCl} (hs : X.stack = X.env :: X.outer) (hf : X.env.frame = some X.env.locals) (tk : Takes X W)
    (hb : ∀ (P1 : Hp) (W' : WX) (pn : List (Addr × Obj)) (xe : Value → Shared → Prop), Takes (X.tr pn xe) W' → PassesOwn (model X.prog X.w) X.A X.env xe → Same E.P0 P1 → PSs (X.tr pn xe) body (upS { E with P0 := P1 } W' tbs))
    (hh : HdY X E (h₀ :: hds) l) : PS X (.Try body (h₀ :: hds) [] [] pos) (upS E W (dTryAll l tbs)) := by
  obtain ⟨k, hh⟩ := hh
  exact impS (ps_try_all (tb := fun W' D σ H => ∃ P1, Same E.P0 P1 ∧ upS { E with P0 := P1 } W' tbs D σ H) hs hf tk
    (fun W' pn xe tk' po => ⟨fun pins s σ H D I ⟨P1, sp, h⟩ => (hb P1 W' pn xe tk' po sp).run pins s σ H D I h⟩) hh.all) fun D σ H h => by
    obtain ⟨P, Γ, De, R, hT, L⟩ := h
    refine ⟨P, R.p0, P, Γ, _, R.reP, hT, ⟨fun σ' Γ' P' H' s R' q => L.nx _ _ _ _ s (R.unP R') q, fun d v σ' Γ' P' H' s R' i q => L.rt _ _ _ _ _ _ s (R.unP R') i q, fun σ' Γ' P' H' s R' q => L.bk _ _ _ _ s (R.unP R') q, fun σ' Γ' P' H' s R' q => L.ct _ _ _ _ s (R.unP R') q, fun σ' e Γ' P' H' cls d R' xi q => ?_⟩⟩
    exact hh.wish R L σ' e Γ' P' H' cls d R' xi q
end
end DL
namespace DL
open PySem L2
section
variable {X : Cx} {E : DC}
theorem hx_nil : HdY X E [] [] := ⟨_, .nil⟩
theorem hx_plain {t : Expr} {cs : List Value} {cat : Nat → Option Bool} {ts : XD → Addr → DST} {b₀ : Stmt} {suite : List Stmt} {pos' : Pos} {hds : List ExceptHandler} {l : List DCl} (hc : Tst X t cs)
      (hcat : ∀ c b, cat c = some b → PySem.W.exmAny X.K (.ref (E.cl (100 + c))) cs = some b)
      (hsu : ∀ (a : Addr) (oe : Obj) (cls : Value) (d : Option Addr) (pn : List (Addr × Obj)) (e : XD) (P1 : Hp), Zc cls d oe → (∃ vs, oe.data = .fields vs) → cat e.c = some true → XIs E.K E.cl P1 P1 e cls d → PSs (X.suite a ((a, oe) :: pn)) (b₀ :: suite) (upS { E with P0 := P1 } noW (ts e a)))
      (r : HdY X E hds l) : HdY X E (.ExceptHandler (some t) none (b₀ :: suite) pos' :: hds) (⟨cat, none, ts⟩ :: l) := let ⟨_, r⟩ := r; ⟨_, .plain hc hcat hsu r⟩
theorem hx_named {t : Expr} {cs : List Value} {cat : Nat → Option Bool} {n : Str} {i : Nat} {ts : XD → Addr → DST} {b₀ : Stmt} {suite : List Stmt} {pos' : Pos} {hds : List ExceptHandler} {l : List DCl} (hN : X.N.Nodup) (hi : X.N[i]? = some n) (hln : X.env.kindOf n = some .local) (hc : Tst X t cs)
      (hcat : ∀ c b, cat c = some b → PySem.W.exmAny X.K (.ref (E.cl (100 + c))) cs = some b)
      (hsu : ∀ (a : Addr) (oe : Obj) (cls : Value) (d : Option Addr) (pn : List (Addr × Obj)) (e : XD) (P1 : Hp), Zc cls d oe → (∃ vs, oe.data = .fields vs) → cat e.c = some true → XIs E.K E.cl P1 P1 e cls d → PSs (X.suite a ((a, oe) :: pn)) (b₀ :: suite) (upS { E with P0 := P1 } noW (ts e a)))
      (r : HdY X E hds l) : HdY X E (.ExceptHandler (some t) (some n) (b₀ :: suite) pos' :: hds) (⟨cat, some i, ts⟩ :: l) := let ⟨_, r⟩ := r; ⟨_, .named hN hi hln hc hcat hsu r⟩
variable {K : PySem.W.Frag} {cl : Nat → Addr}
theorem cat_one {cat : Nat → Option Bool} {cv : Value} (h : ∀ c b, cat c = some b → PySem.W.exmOne K (.ref (cl (100 + c))) cv = some b) : ∀ c b, cat c = some b → PySem.W.exmAny K (.ref (cl (100 + c))) [cv] = some b := fun c b e => by
  show (match PySem.W.exmOne K _ cv, PySem.W.exmAny K _ [] with | some a, some b => some (a || b) | _, _ => none) = _
  rw [h c b e]
  show some (b || false) = some b
  rw [Bool.or_false]
theorem cat_three {c1 c2 c3 : Nat → Option Bool} {v1 v2 v3 : Value} (h1 : ∀ c b, c1 c = some b → PySem.W.exmOne K (.ref (cl (100 + c))) v1 = some b) (h2 : ∀ c b, c2 c = some b → PySem.W.exmOne K (.ref (cl (100 + c))) v2 = some b) (h3 : ∀ c b, c3 c = some b → PySem.W.exmOne K (.ref (cl (100 + c))) v3 = some b) :
    ∀ c b, catAny [c1, c2, c3] c = some b → PySem.W.exmAny K (.ref (cl (100 + c))) [v1, v2, v3] = some b :=
  cat_any (cats := [c1, c2, c3]) (cs := [v1, v2, v3]) rfl fun i cat cv e1 e2 => match i, e1, e2 with
    | 0, e1, e2 => by cases e1; cases e2; exact h1
    | 1, e1, e2 => by cases e1; cases e2; exact h2
    | 2, e1, e2 => by cases e1; cases e2; exact h3
    | i + 3, e1, _ => by simp at e1
end
end DL

namespace DL
open PySem L2 PySem.Calls
section
variable {E : DC} {W : WX} {P P' H H' : Hp} {σ σ' : L2.St} {Γ Γ' : DS} {X : Cx}
variable {a b c e o : Expr} {es : List Expr} {ta tb tc te : DE} {pos p apos p1 : Pos} {tas : DA}
variable {k cn : Nat} {f : Addr} {fd : FuncData} {ps : List Str} {C : ConM}
@[simp] def dStrX : RND := fun ds Q => match ds with
  | [.v (.str x)] => Q (.v (.str x))
  | ds => dRepr ds Q
def rStrH (K : PySem.W.Frag) : List V → Hp → VK → Prop := fun xs H Q => (xs = [.non] ∧ Q (.str "None") H) ∨ (∃ b, xs = [.bl b] ∧ Q (.str (if b then "True" else "False")) H) ∨ (∃ i, xs = [.int i] ∧ i.natAbs.log2 < 1920 ∧ Q (.str (toString i)) H) ∨
  (∃ x, xs = [.str x] ∧ Q (.str x) H) ∨ (∃ a p, xs = [.ref a] ∧ Dp K H (.ref a) p ∧ p.hasDict = false ∧ (p.showable = true ∧ p.shown.length ≤ sizeLine ∧ p.depth ≤ 60) ∧ Q (.str p.shown) H) ∨ ∃ a, xs = [.ref a] ∧ H a = some (.dK []) ∧ Q (.str (PyData.dict []).shown) H
theorem cStrX (hK : X.K = E.K) (hG : X.A.guards = some []) (hu : X.A.units + 64 < cLine) : CallR X (.type "str") (rStrH E.K) := by
  rw [← hK]
  intro pins s σ H xs us Q I r h
  rcases h with ⟨rfl, q⟩ | ⟨b, rfl, q⟩ | ⟨i, rfl, hi, q⟩ | ⟨x, rfl, q⟩ | ⟨a, p, rfl, hd, hn, ⟨h1, h2, h3⟩, q⟩ | ⟨a, rfl, ha, q⟩
  · obtain ⟨u, rfl, rfl⟩ := vals1 r
    exact PySem.P.str_of_none ⟨.str _, H, I.tok _, ⟨_, rfl⟩, q⟩
  · obtain ⟨u, rfl, rfl⟩ := vals1 r
    exact PySem.P.str_of_bool ⟨.str _, H, I.tok _, ⟨_, rfl⟩, q⟩
  · obtain ⟨u, rfl, t, rfl⟩ := vals1 r
    exact PySem.P.str_of_int hi ⟨.str _, H, I.tok _, ⟨_, rfl⟩, q⟩
  · obtain ⟨u, rfl, t, rfl⟩ := vals1 r
    exact PySem.P.str_of_str ⟨.str _, H, I, ⟨_, rfl⟩, q⟩
  · obtain ⟨u, rfl, rfl⟩ := vals1 r
    obtain ⟨as, rd⟩ := Dp.reads I p _ _ hd rfl
    exact str_of_reads rd h1 (PySem.PyData.noDict_hsm hn) hG (by omega) (fun _ _ q => q) (fun h' u tk k => ⟨.str _, H, I.kept k, ⟨_, rfl⟩, q⟩) h2
  · obtain ⟨u, rfl, rfl⟩ := vals1 r
    obtain ⟨_, hsm, vs, kv, o, es, ep, g1, g2, g3, _, pr, _⟩ := dk_of I.hok ha
    cases kv
    have e0 : es.toList = [] := List.length_eq_zero_iff.mp pr.length
    have rd : Reads s.heap (.ref a) (.dict []) (a :: [] ++ []) := .dict g1 g2.1 g3 (by rw [e0]; exact .nil) (by rw [e0]; exact .nil)
    exact str_of_reads rd rfl (fun _ z => by
      rcases List.mem_cons.mp z with z | z
      · rw [← z] at hsm; simp at hsm
      · cases z) hG (Nat.lt_of_le_of_lt (Nat.add_le_add_left (show (PyData.dict []).depth + 3 ≤ 64 by decide) _) hu) (fun _ _ q => q) (fun h' u tk k => ⟨.str _, H, I.kept k, ⟨_, rfl⟩, q⟩) (by decide +kernel)
theorem lk_strX : LkN E (rStrH E.K) dStrX := by
  intro P H σ Γ ds vs Q Qd R i hr hQ
  by_cases hs : ∃ x, ds = [.v (.str x)]
  · obtain ⟨x, rfl⟩ := hs
    obtain ⟨v, rfl, i1⟩ := i.one; rw [i1.v_inv]
    exact .inr (.inr (.inr (.inl ⟨_, rfl, hQ _ _ P H .refl R .v hr⟩)))
  · have hr : dRepr ds Qd := by
      unfold dStrX at hr
      split at hr
      · exact absurd ⟨_, rfl⟩ hs
      · exact hr
    rcases lk_repr P H σ Γ ds vs Q Qd R i hr hQ with h | h | h | h | h
    · exact .inl h
    · exact .inr (.inl h)
    · exact .inr (.inr (.inl h))
    · exfalso
      obtain ⟨x, rfl, _⟩ := h
      cases ds with
      | nil => have := i.length; simp at this
      | cons d r =>
        cases r with
        | cons _ _ => have := i.length; simp at this
        | nil =>
          obtain ⟨v, ev, i1⟩ := i.one
          cases ev
          cases d with
          | v y => have := i1.v_inv; subst this; exact hs ⟨_, rfl⟩
          | _ => obtain ⟨a, e⟩ := i1.ref_of (fun x => nofun); cases e
    · exact .inr (.inr (.inr (.inr h)))
@[simp] def dAnyS (cs : List Nat) (C : ConM) (ta : DA) : DE := fun x Γ Q => ta x Γ fun ds Γ1 => match ds with
  | [d] => match clsOf Γ1.m d with
    | some (c', _, _) => c' ∈ cs ∧ C [d] Γ1.m (fun d m' => ∃ y, d = .v (.str y) ∧ Q d ⟨Γ1.s, m'⟩) fun _ _ => False
    | none => dStrX [d] fun d => Q d Γ1
  | _ => False
theorem up_anyS {cs : List Nat} {Q : VK} (h : up E W (dAnyS cs C tas) σ H Q) : tCB (fun vs H Q => rOwnH E cs (spM E.K E.cl E.T C) vs H Q ∨ rStrH E.K vs H Q) (upA E W tas) σ H Q := by
  obtain ⟨P, Γ, x, Qd, R, hT, hx, hQ⟩ := h
  refine ⟨P, Γ, x, _, R, hT, hx, fun ds Γ1 vs P1 H1 g1 R1 i1 h1 => ?_⟩
  split at h1
  · split at h1
    · rename_i c' ns ws ec
      obtain ⟨hcs, h1⟩ := h1
      have i1' := i1
      obtain ⟨v, rfl, iv⟩ := i1.one
      obtain ⟨q, dx, fs, rfl, hq, rfl, hw, _⟩ := clsOf_ok R1 iv ec
      exact .inl ⟨c', q, dx, fs, hcs, rfl, hq, P1, _, _, _, _, R1.sub, R1.nt, R1.tb, R1.stok, i1', h1, fun d v m' P' H' bk i q => by
        obtain ⟨y, rfl, q⟩ := q
        exact ⟨y, i.v_inv, hQ _ _ _ _ _ (g1.trans (.back bk)) (R1.back bk) i q⟩, fun _ _ _ _ _ _ _ _ z => z.elim⟩
    · exact .inr (lk_strX P1 H1 σ Γ1 _ vs Q _ R1 i1 h1 fun d v P3 H3 g3 R3 i3 h3 => hQ d Γ1 v P3 H3 (g1.trans g3) R3 i3 h3)
  · exact h1.elim
variable {x : Str} {cs : List Nat}
theorem de_strAny (hK : X.K = E.K) (hG : X.A.guards = some []) (hu : X.A.units + 64 < cLine) (hs : ∀ c ∈ cs, PySem.W.findIn E.K (.ref (E.cl c)) "__str__" = some (some (.ref f))) (hf : PySem.W.isFn E.K (.ref f) = true) (F : FnG X.prog X.w X.K X.mg X.base k f fd ps (spM E.K E.cl E.T C)) (hr : Room (k + 2) X.A) (hb : Bnd X.K fd ps 1 0 [] [])
    (hg : Gl X x) (hm : X.mg x = none) (hv : bootBuiltins x = some (.type "str")) (ha : PA X (e :: es) (upA E W tas)) (hn : x ≠ "__name__" := by decide) (hdb : (x == ("__debug__" : Str)) = false := by decide)
    (he : starEach (e :: es) X.env = (false, eval e X.env) :: starEach es X.env := by rfl) (hpl : (backTo pos (starEach es X.env)).any (·.1) = false := by rfl) : PE X (.Call (.Name x p) (e :: es) [] pos) (up E W (dAnyS cs C tas)) :=
  impE (pe_callTy ((own_str hK hG hs hf F hr hb).or (cStrX hK hG hu)) hg hm hv ha hn hdb he hpl) fun _ _ _ h => up_anyS h
end
end DL

namespace K05
open PySem L2 DL

def cat_InvalidTint : Nat → Option Bool
  | 0 => some true
  | 7 => some false
  | _ => none
def cat_NotATree : Nat → Option Bool
  | 0 => some false
  | 7 => some true
  | _ => none
def tab_Tree : D → Option Bool := isTab false false false false false false false [true]
def tab_str : D → Option Bool := isTab false false false true false false false [false]
def t_is_tint : DST := (dRet (dAndV (dIsT tab_str (dVar 0)) (dAndV (dOp dEq (dCB dLen (dCons (dVar 0) dNil)) (dC (.int 1))) (dOp dIn (dVar 0) (dC (.str "abcdefghijklmnopqrstuvwxyz"))))))
def t_side_text : DST := (dRet (dIf (dTest (dIsN (dVar 0))) (dC (.str "-")) (dFld "line" (dVar 0))))
def t_side_size : DST := (dRet (dIf (dTest (dIsN (dVar 0))) (dC (.int 0)) (dFld "nodes" (dVar 0))))
def t_side_levels : DST := (dRet (dIf (dTest (dIsN (dVar 0))) (dC (.int 0)) (dFld "depth" (dVar 0))))
def t_side_routes : DST := (dRet (dIf (dTest (dIsN (dVar 1))) (dTup dNil) (dCB dTuple (dCons (dFz (dLc (dItT (dFld "routes" (dVar 1))) (dName 2) dYes (dOp dAdd (dVar 0) (dVar 2)) [2])) dNil))))
def t_Tree_init (c_is_tint : ConM) (c_side_text : ConM) (c_side_size : ConM) (c_side_levels : ConM) (c_side_routes : ConM) : DST := (dSeq (dIfS (dNot (dTru (dCall c_is_tint 1 0 [.p 0] (dCons (dVar 1) dNil) dNil))) (dRaise 0 ["given"] (dCons (dVar 1) dNil)) dNext) (dSeq (dFor (dItT (dTup (dCons (dVar 2) (dCons (dVar 3) dNil)))) (dName 4) (dIfS (dAnd (dTest (dNotN (dVar 4))) (dNot (dTru (dIsT tab_Tree (dVar 4))))) (dRaise 7 ["given"] (dCons (dVar 4) dNil)) dNext)) (dSeq (dFst "letter" (dVar 0) (dVar 1)) (dSeq (dFst "first" (dVar 0) (dVar 2)) (dSeq (dFst "second" (dVar 0) (dVar 3)) (dSeq (dSet 5 (dAndV (dIsN (dVar 2)) (dIsN (dVar 3)))) (dSeq (dFst "line" (dVar 0) (dIf (dTru (dVar 5)) (dVar 1) (dJoined [(dFmt (dVar 1)), (dC (.str "(")), (dFmt (dCall c_side_text 1 0 [.p 0] (dCons (dVar 2) dNil) dNil)), (dC (.str ",")), (dFmt (dCall c_side_text 1 0 [.p 0] (dCons (dVar 3) dNil) dNil)), (dC (.str ")"))]))) (dSeq (dFst "nodes" (dVar 0) (dOp dAdd (dOp dAdd (dC (.int 1)) (dCall c_side_size 1 0 [.p 0] (dCons (dVar 2) dNil) dNil)) (dCall c_side_size 1 0 [.p 0] (dCons (dVar 3) dNil) dNil))) (dSeq (dFst "depth" (dVar 0) (dOp dAdd (dC (.int 1)) (dCB dMaxL (dCons (dFz (dLst (dCons (dCall c_side_levels 1 0 [.p 0] (dCons (dVar 2) dNil) dNil) (dCons (dCall c_side_levels 1 0 [.p 0] (dCons (dVar 3) dNil) dNil) dNil)))) dNil)))) (dFst "routes" (dVar 0) (dOp dAdd (dOp dAdd (dTup (dCons (dC (.str "")) dNil)) (dCall c_side_routes 2 0 [.p 0, .p 1] (dCons (dC (.str "L")) (dCons (dVar 2) dNil)) dNil)) (dCall c_side_routes 2 0 [.p 0, .p 1] (dCons (dC (.str "R")) (dCons (dVar 3) dNil)) dNil))))))))))))
def t__law_pull : DST := (dSeq (dAsg (dOp dAdd (dStk 0 2) (dC (.int 1))) (dGStk 0 2)) (dSeq (dIfS (dTest (dOp dGt (dStk 0 0) (dC (.int 0)))) (dSeq (dAsg (dCB dDivmod (dCons (dStk 0 0) (dCons (dVar 1) dNil))) (dGTup 2 (dGCons (dGStk 0 0) (dGCons (dName 2) dGNil)))) (dRet (dVar 2))) dNext) (dSeq (dAsg (dOp dMod (dCB dInt (dCons (dOp dAdd (dOp dMul (dStk 0 1) (dC (.int 40093))) (dOp dMul (dC (.int 5417)) (dStk 0 2))) dNil)) (dC (.int 2147483587))) (dGStk 0 1)) (dRet (dOp dMod (dCB dInt (dCons (dOp dDiv (dStk 0 1) (dC (.int 512))) dNil)) (dVar 1))))))
def t__law_pick (c__law_pull : ConM) : DST := (dRet (dOp dIxR (dVar 1) (dCall c__law_pull 2 0 [.p 0, .p 1] (dCons (dVar 0) (dCons (dCB dLen (dCons (dVar 1) dNil)) dNil)) dNil)))
def t__law_thing (c__law_pull : ConM) (c__law_pick : ConM) : DST := (dSeq (dSet 2 (dFz (dLst (dCons (dC (.str "")) (dCons (dC (.str "A")) (dCons (dC (.str "ab")) (dCons (dC (.str "1")) (dCons (dC (.str " ")) (dCons (dC (.str "-")) (dCons (dC (.bl true)) (dCons (dC (.int 0)) (dCons (dTup (dCons (dC (.str "a")) dNil)) (dCons (dFz (dLst (dCons (dC (.str "a")) dNil))) (dCons dDic0 (dCons (dC (.str "a(b,-)")) (dCons (dTup dNil) (dCons (dC (.int 7)) dNil))))))))))))))))) (dSeq (dIfS (dTest (dOp dGt (dCall c__law_pull 2 0 [.p 0, .p 1] (dCons (dVar 0) (dCons (dC (.int 3)) dNil)) dNil) (dC (.int 0)))) (dRet (dTup (dCons (dCall c__law_pick 2 0 [.p 0, .p 1] (dCons (dVar 0) (dCons (dVar 1) dNil)) dNil) (dCons (dC (.bl true)) dNil)))) dNext) (dRet (dTup (dCons (dCall c__law_pick 2 0 [.p 0, .p 1] (dCons (dVar 0) (dCons (dVar 2) dNil)) dNil) (dCons (dC (.bl false)) dNil))))))
def t_Tree_str : DST := (dRet (dCB dStrX (dCons (dFld "line" (dVar 0)) dNil)))
def t__law_side (c_Tree_str : ConM) : DST := (dRet (dIf (dTest (dIsN (dVar 0))) (dC (.str "-")) (dAnyS [0] c_Tree_str (dCons (dVar 0) dNil))))
def t__law_caught (f : Addr) (act : DL.Act) : DST := (dSeq (dTryAll [⟨cat_InvalidTint, some 2, fun ex ea => (dRet (dTup (dCons (dC (.str "InvalidTint")) (dCons (dCB dRepr (dCons (dXf ex ea "given" (dVar 2)) dNil)) dNil))))⟩, ⟨cat_NotATree, some 2, fun ex ea => (dRet (dTup (dCons (dC (.str "NotATree")) (dCons (dCB dRepr (dCons (dXf ex ea "given" (dVar 2)) dNil)) dNil))))⟩] (dSet 1 (dAct f act))) (dRet (dTup (dCons (dC (.str "told")) (dCons (dVar 1) dNil)))))
def t__law_right (c_Tree_init : ConM) (c__law_thing : ConM) (c__law_side : ConM) (c__law_caught : ConA) (c_Tree_str : ConM) (c__law_pick : ConM) : DST := (dSeq (dSet 1 (dFz (dLst (dCons (dC .non) (dCons (dMake true 0 c_Tree_init 1 0 [.p 0, .n, .n] (dCons (dC (.str "a")) dNil) dNil) (dCons (dMake true 0 c_Tree_init 2 0 [.p 0, .p 1, .n] (dCons (dC (.str "z")) (dCons (dMake true 0 c_Tree_init 1 0 [.p 0, .n, .n] (dCons (dC (.str "m")) dNil) dNil) dNil)) dNil) (dCons (dMake true 0 c_Tree_init 3 0 [.p 0, .p 1, .p 2] (dCons (dC (.str "b")) (dCons (dC .non) (dCons (dMake true 0 c_Tree_init 1 0 [.p 0, .n, .n] (dCons (dC (.str "b")) dNil) dNil) dNil))) dNil) dNil))))))) (dSeq (dAsg (dTup (dCons (dCall c__law_thing 2 0 [.p 0, .p 1] (dCons (dVar 0) (dCons (dFz (dLst (dCons (dC (.str "a")) (dCons (dC (.str "z")) (dCons (dC (.str "q")) dNil))))) dNil)) dNil) (dCons (dCall c__law_thing 2 0 [.p 0, .p 1] (dCons (dVar 0) (dCons (dVar 1) dNil)) dNil) (dCons (dCall c__law_thing 2 0 [.p 0, .p 1] (dCons (dVar 0) (dCons (dVar 1) dNil)) dNil) dNil)))) (dGTup 3 (dGCons (dName 5) (dGCons (dName 6) (dGCons (dName 7) dGNil))))) (dSeq (dSet 2 (dTup (dCons (dC (.str "told")) (dCons (dOp dIxR (dVar 5) (dC (.int 0))) dNil)))) (dSeq (dIfS (dOr (dTest (dNotN (dOp dIxR (dVar 6) (dC (.int 0))))) (dTest (dNotN (dOp dIxR (dVar 7) (dC (.int 0)))))) (dSet 2 (dTup (dCons (dC (.str "told")) (dCons (dOp dAdd (dOp dAdd (dOp dAdd (dOp dAdd (dOp dAdd (dCB dStrX (dCons (dOp dIxR (dVar 5) (dC (.int 0))) dNil)) (dC (.str "("))) (dCall c__law_side 1 0 [.p 0] (dCons (dOp dIxR (dVar 6) (dC (.int 0))) dNil) dNil)) (dC (.str ","))) (dCall c__law_side 1 0 [.p 0] (dCons (dOp dIxR (dVar 7) (dC (.int 0))) dNil) dNil)) (dC (.str ")"))) dNil)))) dNext) (dSeq (dFor (dItL (dFz (dLst (dCons (dTup (dCons (dC (.str "NotATree")) (dCons (dVar 7) dNil))) (dCons (dTup (dCons (dC (.str "NotATree")) (dCons (dVar 6) dNil))) (dCons (dTup (dCons (dC (.str "InvalidTint")) (dCons (dVar 5) dNil))) dNil)))))) (dGTup 2 (dGCons (dName 8) (dGCons (dName 9) dGNil))) (dIfS (dNot (dTru (dOp dIxR (dVar 9) (dC (.int 1))))) (dSet 2 (dTup (dCons (dVar 8) (dCons (dCB dRepr (dCons (dOp dIxR (dVar 9) (dC (.int 0))) dNil)) dNil)))) dNext)) (dSeq (dSet 3 (dOwn (dLst (dCons (dLam c__law_caught (dOwnS [0] c_Tree_str (dCons (dMake true 0 c_Tree_init 3 0 [.p 0, .p 1, .p 2] (dCons (dOp dIxR (dVar 5) (dC (.int 0))) (dCons (dOp dIxR (dVar 6) (dC (.int 0))) (dCons (dOp dIxR (dVar 7) (dC (.int 0))) dNil))) dNil) dNil))) dNil)))) (dSeq (dDrop (dLM lApp (dVar 3) (dCons (dLam c__law_caught (dOwnS [0] c_Tree_str (dCons (dMake true 0 c_Tree_init 0 3 [.k 1, .k 2, .k 0] dNil (dCons (dOp dIxR (dVar 7) (dC (.int 0))) (dCons (dOp dIxR (dVar 5) (dC (.int 0))) (dCons (dOp dIxR (dVar 6) (dC (.int 0))) dNil)))) dNil))) dNil))) (dSeq (dIfS (dTest (dOpV dNe (dVar 3) (dFz (dLst (dCons (dVar 2) (dCons (dVar 2) dNil)))))) (dRet (dC (.bl false))) dNext) (dSeq (dSet 4 (dCall c__law_pick 2 0 [.p 0, .p 1] (dCons (dVar 0) (dCons (dFz (dLst (dCons (dC .non) (dCons (dC (.str "")) (dCons (dC (.str "A")) (dCons (dC (.int 0)) (dCons (dC (.bl true)) dNil))))))) dNil)) dNil)) (dRet (dAndV (dOp dEq (dLam c__law_caught (dMake true 0 c_Tree_init 1 0 [.p 0, .n, .n] (dCons (dVar 4) dNil) dNil)) (dTup (dCons (dC (.str "InvalidTint")) (dCons (dCB dRepr (dCons (dVar 4) dNil)) dNil)))) (dOp dEq (dOwnS [0] c_Tree_str (dCons (dMake true 0 c_Tree_init 1 0 [.p 0, .n, .n] (dCons (dC (.str "k")) dNil) dNil) dNil)) (dC (.str "k"))))))))))))))
def t__law_stock : DST := (dSeq (dSet 2 (dIf (dTest (dOp dLt (dVar 1) (dCB dLen (dCons (dVar 0) dNil)))) (dOp dIxR (dVar 0) (dVar 1)) (dOp dAdd (dOp dMul (dC (.int 7)) (dVar 1)) (dC (.int 3))))) (dSeq (dSet 3 (dOp dAdd (dC (.int 90001)) (dOp dMul (dC (.int 6143)) (dVar 1)))) (dSeq (dFor (dItL (dOp dAdd (dSl (dVar 0) dNoPart (dPart (dC (.int 5)))) (dFz (dLst (dCons (dVar 2) dNil))))) (dName 4) (dSet 3 (dOp dMod (dCB dInt (dCons (dOp dAdd (dOp dMul (dVar 3) (dC (.int 31081))) (dVar 4)) dNil)) (dC (.int 2147483587))))) (dRet (dMkStk (dCons (dIf (dOr (dTest (dOp dLt (dVar 2) (dC (.int 0)))) (dTest (dOp dGe (dVar 2) (dOp dPow (dC (.int 10)) (dC (.int 18)))))) (dCB dAbs (dCons (dVar 2) dNil)) (dC (.int 0))) (dCons (dVar 3) (dCons (dC (.int 0)) dNil))))))))
def t_law (c__law_right : ConM) (c__law_stock : ConM) : DST := (dRet (dCB dAll (dCons (dFz (dLc (dItR1 (dCons (dCB dMax2 (dCons (dC (.int 2)) (dCons (dCB dMin2 (dCons (dCB dLen (dCons (dVar 0) dNil)) (dCons (dC (.int 12)) dNil))) dNil))) dNil)) (dName 1) dYes (dCall c__law_right 1 0 [.p 0] (dCons (dCall c__law_stock 2 0 [.p 0, .p 1] (dCons (dVar 0) (dCons (dVar 1) dNil)) dNil) dNil) dNil) [1])) dNil)))
end K05

namespace K05
open PySem L2 DL PySem.Calls

def top (i : Nat) : Stmt := PySem.Challenge.pw_pilewalks_k05_trees_are_refused.main.body.getD i (.Pass ⟨0, 0, 0, 0⟩)
abbrev s_is_tint : Stmt := top 9
abbrev s_InvalidTint_init : Stmt := inClass (top 3) 0
abbrev s_NotATree_init : Stmt := inClass (top 6) 0
abbrev s_side_text : Stmt := top 11
abbrev s_side_size : Stmt := top 12
abbrev s_side_levels : Stmt := top 13
abbrev s_side_routes : Stmt := top 14
abbrev s_Tree_init : Stmt := inClass (top 15) 0
abbrev s__law_pull : Stmt := top 21
abbrev s__law_pick : Stmt := top 22
abbrev s__law_thing : Stmt := top 24
abbrev s_Tree_str : Stmt := inClass (top 15) 10
abbrev s__law_side : Stmt := top 25
abbrev s__law_caught : Stmt := top 23
abbrev s__law_right : Stmt := top 26
abbrev s__law_stock : Stmt := top 20
abbrev s_law : Stmt := top 27
theorem sc_is_tint : FnScope ["value"] ["value"] (defScope s_is_tint) := ⟨rfl, rfl, rfl, by decide +kernel, rfl, by decide +kernel, by decide +kernel⟩
theorem sc_InvalidTint_init : FnScope ["self", "given"] ["self", "given"] (defScope s_InvalidTint_init) := ⟨rfl, rfl, rfl, by decide +kernel, rfl, by decide +kernel, by decide +kernel⟩
theorem sc_NotATree_init : FnScope ["self", "given"] ["self", "given"] (defScope s_NotATree_init) := ⟨rfl, rfl, rfl, by decide +kernel, rfl, by decide +kernel, by decide +kernel⟩
theorem sc_side_text : FnScope ["side"] ["side"] (defScope s_side_text) := ⟨rfl, rfl, rfl, by decide +kernel, rfl, by decide +kernel, by decide +kernel⟩
theorem sc_side_size : FnScope ["side"] ["side"] (defScope s_side_size) := ⟨rfl, rfl, rfl, by decide +kernel, rfl, by decide +kernel, by decide +kernel⟩
theorem sc_side_levels : FnScope ["side"] ["side"] (defScope s_side_levels) := ⟨rfl, rfl, rfl, by decide +kernel, rfl, by decide +kernel, by decide +kernel⟩
theorem sc_side_routes : FnScope ["letter", "side", "path"] ["letter", "side"] (defScope s_side_routes) := ⟨rfl, rfl, rfl, by decide +kernel, rfl, by decide +kernel, by decide +kernel⟩
theorem sc_Tree_init : FnScope ["self", "tint", "left", "right", "side", "is_leaf"] ["self", "tint", "left", "right"] (defScope s_Tree_init) := ⟨rfl, rfl, rfl, by decide +kernel, rfl, by decide +kernel, by decide +kernel⟩
theorem sc__law_pull : FnScope ["_law_stock_here", "_law_top", "_law_digit"] ["_law_stock_here", "_law_top"] (defScope s__law_pull) := ⟨rfl, rfl, rfl, by decide +kernel, rfl, by decide +kernel, by decide +kernel⟩
theorem sc__law_pick : FnScope ["_law_stock_here", "_law_menu"] ["_law_stock_here", "_law_menu"] (defScope s__law_pick) := ⟨rfl, rfl, rfl, by decide +kernel, rfl, by decide +kernel, by decide +kernel⟩
theorem sc__law_thing : FnScope ["_law_stock_here", "_law_good", "_law_odd"] ["_law_stock_here", "_law_good"] (defScope s__law_thing) := ⟨rfl, rfl, rfl, by decide +kernel, rfl, by decide +kernel, by decide +kernel⟩
theorem sc_Tree_str : FnScope ["self"] ["self"] (defScope s_Tree_str) := ⟨rfl, rfl, rfl, by decide +kernel, rfl, by decide +kernel, by decide +kernel⟩
theorem sc__law_side : FnScope ["_law_thing_here"] ["_law_thing_here"] (defScope s__law_side) := ⟨rfl, rfl, rfl, by decide +kernel, rfl, by decide +kernel, by decide +kernel⟩
theorem sc__law_caught : FnScope ["_law_act", "_law_told", "e"] ["_law_act"] (defScope s__law_caught) := ⟨rfl, rfl, rfl, by decide +kernel, rfl, by decide +kernel, by decide +kernel⟩
theorem sc__law_right : FnScope ["_law_stock_here", "_law_sides", "_law_due", "_law_told", "_law_odd", "_law_shade", "_law_low", "_law_high", "_law_kind", "_law_pair"] ["_law_stock_here"] (defScope s__law_right) := ⟨rfl, rfl, rfl, by decide +kernel, rfl, by decide +kernel, by decide +kernel⟩
theorem sc__law_stock : FnScope ["_law_cells", "_law_turn", "_law_cell", "_law_stir", "_law_each"] ["_law_cells", "_law_turn"] (defScope s__law_stock) := ⟨rfl, rfl, rfl, by decide +kernel, rfl, by decide +kernel, by decide +kernel⟩
theorem sc_law : FnScope ["_law_cells", "_law_turn"] ["_law_cells"] (defScope s_law) := ⟨rfl, rfl, rfl, by decide +kernel, rfl, by decide +kernel, by decide +kernel⟩
structure Txt (K : PySem.W.Frag) (mg : Str → Option Value) where
  cl : Nat → Addr
  tb : List NdefX.NTab
  cls : ∀ c, c < 100 → IsiC K (cl c)
  a_is_tint : Addr
  d_is_tint : FuncData
  a_InvalidTint_init : Addr
  d_InvalidTint_init : FuncData
  a_NotATree_init : Addr
  d_NotATree_init : FuncData
  a_side_text : Addr
  d_side_text : FuncData
  a_side_size : Addr
  d_side_size : FuncData
  a_side_levels : Addr
  d_side_levels : FuncData
  a_side_routes : Addr
  d_side_routes : FuncData
  a_Tree_init : Addr
  d_Tree_init : FuncData
  a__law_pull : Addr
  d__law_pull : FuncData
  a__law_pick : Addr
  d__law_pick : FuncData
  a__law_thing : Addr
  d__law_thing : FuncData
  a_Tree_str : Addr
  d_Tree_str : FuncData
  a__law_side : Addr
  d__law_side : FuncData
  a__law_caught : Addr
  d__law_caught : FuncData
  a__law_right : Addr
  d__law_right : FuncData
  a__law_stock : Addr
  d__law_stock : FuncData
  a_law : Addr
  d_law : FuncData
  x_is_tint : FunX K "is_tint" "is_tint" s_is_tint a_is_tint d_is_tint
  m_is_tint : mg "is_tint" = some (.ref a_is_tint)
  k_is_tint : PySem.W.keepIn K (.ref a_is_tint) = true
  x_InvalidTint_init : FunX K "__init__" "InvalidTint.__init__" s_InvalidTint_init a_InvalidTint_init d_InvalidTint_init
  x_NotATree_init : FunX K "__init__" "NotATree.__init__" s_NotATree_init a_NotATree_init d_NotATree_init
  x_side_text : FunX K "side_text" "side_text" s_side_text a_side_text d_side_text
  m_side_text : mg "side_text" = some (.ref a_side_text)
  k_side_text : PySem.W.keepIn K (.ref a_side_text) = true
  x_side_size : FunX K "side_size" "side_size" s_side_size a_side_size d_side_size
  m_side_size : mg "side_size" = some (.ref a_side_size)
  k_side_size : PySem.W.keepIn K (.ref a_side_size) = true
  x_side_levels : FunX K "side_levels" "side_levels" s_side_levels a_side_levels d_side_levels
  m_side_levels : mg "side_levels" = some (.ref a_side_levels)
  k_side_levels : PySem.W.keepIn K (.ref a_side_levels) = true
  x_side_routes : FunX K "side_routes" "side_routes" s_side_routes a_side_routes d_side_routes
  m_side_routes : mg "side_routes" = some (.ref a_side_routes)
  k_side_routes : PySem.W.keepIn K (.ref a_side_routes) = true
  x_Tree_init : FunX K "__init__" "Tree.__init__" s_Tree_init a_Tree_init d_Tree_init
  x__law_pull : FunX K "_law_pull" "_law_pull" s__law_pull a__law_pull d__law_pull
  m__law_pull : mg "_law_pull" = some (.ref a__law_pull)
  k__law_pull : PySem.W.keepIn K (.ref a__law_pull) = true
  x__law_pick : FunX K "_law_pick" "_law_pick" s__law_pick a__law_pick d__law_pick
  m__law_pick : mg "_law_pick" = some (.ref a__law_pick)
  k__law_pick : PySem.W.keepIn K (.ref a__law_pick) = true
  x__law_thing : FunX K "_law_thing" "_law_thing" s__law_thing a__law_thing d__law_thing
  m__law_thing : mg "_law_thing" = some (.ref a__law_thing)
  k__law_thing : PySem.W.keepIn K (.ref a__law_thing) = true
  x_Tree_str : FunX K "__str__" "Tree.__str__" s_Tree_str a_Tree_str d_Tree_str
  x__law_side : FunX K "_law_side" "_law_side" s__law_side a__law_side d__law_side
  m__law_side : mg "_law_side" = some (.ref a__law_side)
  k__law_side : PySem.W.keepIn K (.ref a__law_side) = true
  x__law_caught : FunX K "_law_caught" "_law_caught" s__law_caught a__law_caught d__law_caught
  m__law_caught : mg "_law_caught" = some (.ref a__law_caught)
  k__law_caught : PySem.W.keepIn K (.ref a__law_caught) = true
  x__law_right : FunX K "_law_right" "_law_right" s__law_right a__law_right d__law_right
  m__law_right : mg "_law_right" = some (.ref a__law_right)
  k__law_right : PySem.W.keepIn K (.ref a__law_right) = true
  x__law_stock : FunX K "_law_stock" "_law_stock" s__law_stock a__law_stock d__law_stock
  m__law_stock : mg "_law_stock" = some (.ref a__law_stock)
  k__law_stock : PySem.W.keepIn K (.ref a__law_stock) = true
  x_law : FunX K "law" "law" s_law a_law d_law
  m_law : mg "law" = some (.ref a_law)
  k_law : PySem.W.keepIn K (.ref a_law) = true
  m_InvalidTint : mg "InvalidTint" = some (.ref (cl 100))
  ox_InvalidTint : OexG K (cl 100)
  xi_InvalidTint : PySem.W.findIn K (.ref (cl 100)) "__init__" = some (some (.ref a_InvalidTint_init))
  xt_InvalidTint : PySem.W.typeIn K (.ref a_InvalidTint_init) = some (.type "function")
  xn_InvalidTint_given : PySem.W.findIn K (.ref (cl 100)) "given" = some none
  m_NotATree : mg "NotATree" = some (.ref (cl 107))
  ox_NotATree : OexG K (cl 107)
  xi_NotATree : PySem.W.findIn K (.ref (cl 107)) "__init__" = some (some (.ref a_NotATree_init))
  xt_NotATree : PySem.W.typeIn K (.ref a_NotATree_init) = some (.type "function")
  xn_NotATree_given : PySem.W.findIn K (.ref (cl 107)) "given" = some none
  b_InvalidTint_init_1 : Bnd K d_InvalidTint_init ["self", "given"] 1 1 [] [.p 0]
  b_NotATree_init_1 : Bnd K d_NotATree_init ["self", "given"] 1 1 [] [.p 0]
  b_Tree_init_0_right_tint_left : Bnd K d_Tree_init ["self", "tint", "left", "right"] 1 0 ["right", "tint", "left"] [.k 1, .k 2, .k 0]
  b_Tree_init_1 : Bnd K d_Tree_init ["self", "tint", "left", "right"] 1 1 [] [.p 0, .n, .n]
  b_Tree_init_2 : Bnd K d_Tree_init ["self", "tint", "left", "right"] 1 2 [] [.p 0, .p 1, .n]
  b_Tree_init_3 : Bnd K d_Tree_init ["self", "tint", "left", "right"] 1 3 [] [.p 0, .p 1, .p 2]
  b_Tree_str_0 : Bnd K d_Tree_str ["self"] 1 0 [] []
  b__law_pick_2 : Bnd K d__law_pick ["_law_stock_here", "_law_menu"] 0 2 [] [.p 0, .p 1]
  b__law_pull_2 : Bnd K d__law_pull ["_law_stock_here", "_law_top"] 0 2 [] [.p 0, .p 1]
  b__law_right_1 : Bnd K d__law_right ["_law_stock_here"] 0 1 [] [.p 0]
  b__law_side_1 : Bnd K d__law_side ["_law_thing_here"] 0 1 [] [.p 0]
  b__law_stock_2 : Bnd K d__law_stock ["_law_cells", "_law_turn"] 0 2 [] [.p 0, .p 1]
  b__law_thing_2 : Bnd K d__law_thing ["_law_stock_here", "_law_good"] 0 2 [] [.p 0, .p 1]
  b_is_tint_1 : Bnd K d_is_tint ["value"] 0 1 [] [.p 0]
  b_side_levels_1 : Bnd K d_side_levels ["side"] 0 1 [] [.p 0]
  b_side_routes_2 : Bnd K d_side_routes ["letter", "side"] 0 2 [] [.p 0, .p 1]
  b_side_size_1 : Bnd K d_side_size ["side"] 0 1 [] [.p 0]
  b_side_text_1 : Bnd K d_side_text ["side"] 0 1 [] [.p 0]
  bg__law_caught : L2.Binds K d__law_caught ["_law_act"] []
  m_Tree : mg "Tree" = some (.ref (cl 0))
  k_Tree : Mk K (cl 0) a_Tree_init
  cx_InvalidTint : ∀ c b, cat_InvalidTint c = some b → PySem.W.exmOne K (.ref (cl (100 + c))) (.ref (cl 100)) = some b
  xc_InvalidTint : ∀ c, cat_InvalidTint c = some true → XfC K (cl (100 + c))
  cx_NotATree : ∀ c b, cat_NotATree c = some b → PySem.W.exmOne K (.ref (cl (100 + c))) (.ref (cl 107)) = some b
  xc_NotATree : ∀ c, cat_NotATree c = some true → XfC K (cl (100 + c))
  g_LETTERS : ∃ u, mg "LETTERS" = some u ∧ RelV (.str "abcdefghijklmnopqrstuvwxyz") u
  it_Tree : IsTab K cl (.ref (cl 0)) (.ref (cl 0)) tab_Tree
  it_str : IsTab K cl (.ty "str") (.type "str") tab_str
  n_depth : ∀ c, c < 100 → NoAttr K (cl c) "depth"
  n_first : ∀ c, c < 100 → NoAttr K (cl c) "first"
  n_letter : ∀ c, c < 100 → NoAttr K (cl c) "letter"
  n_line : ∀ c, c < 100 → NoAttr K (cl c) "line"
  n_nodes : ∀ c, c < 100 → NoAttr K (cl c) "nodes"
  n_routes : ∀ c, c < 100 → NoAttr K (cl c) "routes"
  n_second : ∀ c, c < 100 → NoAttr K (cl c) "second"
  o_Tree_str : ∀ c ∈ ([0] : List Nat), PySem.W.findIn K (.ref (cl c)) "__str__" = some (some (.ref a_Tree_str))
  of_Tree_str : PySem.W.isFn K (.ref a_Tree_str) = true
  cc__law_right : Addr
  ct__law_right : Addr
  cd__law_right : d__law_right.code = .ref cc__law_right
  tbm__law_right : ∃ nm, (ct__law_right, nm) ∈ tb ∧ (∀ i j, nm i j = ((("_law_right" : Str) ++ ".<locals>.") ++ "<lambda>" : Str)) ∧ ∀ p ∈ tb, p.1 = ct__law_right → p.2 = nm
  xa_InvalidTint_given : ∀ c, cat_InvalidTint c = some true → PySem.W.findIn K (.ref (cl (100 + c))) "given" = some none
  xa_NotATree_given : ∀ c, cat_NotATree c = some true → PySem.W.findIn K (.ref (cl (100 + c))) "given" = some none
  z_abs : mg "abs" = none
  z_all : mg "all" = none
  z_divmod : mg "divmod" = none
  z_int : mg "int" = none
  z_isinstance : mg "isinstance" = none
  z_len : mg "len" = none
  z_max : mg "max" = none
  z_min : mg "min" = none
  z_range : mg "range" = none
  z_repr : mg "repr" = none
  z_str : mg "str" = none
  z_tuple : mg "tuple" = none
section
variable {P : Program} {w : World} {K : PySem.W.Frag} {mg : Str → Option Value} {base : Heap}
theorem w_is_tint (T : Txt K mg) {k : Nat} {C : Con}
    (hl : ∀ ds Q R, C ds Q R → ds.length = 1) (hC : ∀ ds Q R, C ds Q R → t_is_tint (conE Q R) (entry 1 ds)) :
    FnG P w K mg base (k + 1) T.a_is_tint T.d_is_tint ["value"] (spM K T.cl T.tb (liftC C)) := by
  refine okD T.x_is_tint sc_is_tint (by decide) hl fun cdv hcdv A outer s H E Ex hK hcl hT hG hr => ?_
  obtain ⟨K', cl', T', P0, H0, io⟩ := E
  obtain rfl : K' = K := hK
  obtain rfl : cl' = T.cl := hcl
  obtain rfl : T' = T.tb := hT
  have LTM : ∀ c ∈ ([0] : List Nat), c < 100 := by decide
  refine ⟨t_is_tint, ?_, hC⟩
  unfold t_is_tint
  refine ds_one ?_
  refine d_ret ?_
  refine de_and ?_ ?_
  refine de_isT T.it_str T.cls (by rfl) (by rfl) T.z_isinstance ?_ (pe_tyn (by rfl) T.z_str (by rfl))
  refine de_var 0
  refine de_and ?_ ?_
  refine de_cmp (opEq (by rfl) hr.units) lk_eq ?_ ?_ (nomark _)
  refine de_callB (cLen (by rfl)) lk_len (by rfl) T.z_len (by rfl) ?_
  refine da_cons ?_ ?_
  refine de_var 0
  refine da_nil
  refine de_int
  refine de_one ?_
  refine de_cmp (opIn (by rfl)) lk_in ?_ ?_ (by with_unfolding_all exact Eq.refl _)
  refine de_var 0
  refine de_glob (by rfl) T.g_LETTERS
theorem w_InvalidTint_init (T : Txt K mg) : FnG P w K mg base 1 T.a_InvalidTint_init T.d_InvalidTint_init ["self", "given"] (spX1 (T.cl 100) "given") := by
  exact exi1 T.x_InvalidTint_init sc_InvalidTint_init rfl T.ox_InvalidTint T.xn_InvalidTint_given fun _ _ _ _ _ _ => pss_one (ps_xst (pv 0) (pv 1))
theorem w_NotATree_init (T : Txt K mg) : FnG P w K mg base 1 T.a_NotATree_init T.d_NotATree_init ["self", "given"] (spX1 (T.cl 107) "given") := by
  exact exi1 T.x_NotATree_init sc_NotATree_init rfl T.ox_NotATree T.xn_NotATree_given fun _ _ _ _ _ _ => pss_one (ps_xst (pv 0) (pv 1))
theorem w_side_text (T : Txt K mg) {k : Nat} {C : Con}
    (hl : ∀ ds Q R, C ds Q R → ds.length = 1) (hC : ∀ ds Q R, C ds Q R → t_side_text (conE Q R) (entry 1 ds)) :
    FnG P w K mg base (k + 1) T.a_side_text T.d_side_text ["side"] (spM K T.cl T.tb (liftC C)) := by
  refine okD T.x_side_text sc_side_text (by decide) hl fun cdv hcdv A outer s H E Ex hK hcl hT hG hr => ?_
  obtain ⟨K', cl', T', P0, H0, io⟩ := E
  obtain rfl : K' = K := hK
  obtain rfl : cl' = T.cl := hcl
  obtain rfl : T' = T.tb := hT
  have LTM : ∀ c ∈ ([0] : List Nat), c < 100 := by decide
  refine ⟨t_side_text, ?_, hC⟩
  unfold t_side_text
  refine ds_one ?_
  refine d_ret ?_
  refine de_if ?_ ?_ ?_
  refine dt_isN ?_
  refine de_var 0
  refine de_str
  refine de_fld (by rfl) (fun c h => (T.cls c h).cl) T.n_line ?_
  refine de_var 0
theorem w_side_size (T : Txt K mg) {k : Nat} {C : Con}
    (hl : ∀ ds Q R, C ds Q R → ds.length = 1) (hC : ∀ ds Q R, C ds Q R → t_side_size (conE Q R) (entry 1 ds)) :
    FnG P w K mg base (k + 1) T.a_side_size T.d_side_size ["side"] (spM K T.cl T.tb (liftC C)) := by
  refine okD T.x_side_size sc_side_size (by decide) hl fun cdv hcdv A outer s H E Ex hK hcl hT hG hr => ?_
  obtain ⟨K', cl', T', P0, H0, io⟩ := E
  obtain rfl : K' = K := hK
  obtain rfl : cl' = T.cl := hcl
  obtain rfl : T' = T.tb := hT
  have LTM : ∀ c ∈ ([0] : List Nat), c < 100 := by decide
  refine ⟨t_side_size, ?_, hC⟩
  unfold t_side_size
  refine ds_one ?_
  refine d_ret ?_
  refine de_if ?_ ?_ ?_
  refine dt_isN ?_
  refine de_var 0
  refine de_int
  refine de_fld (by rfl) (fun c h => (T.cls c h).cl) T.n_nodes ?_
  refine de_var 0
theorem w_side_levels (T : Txt K mg) {k : Nat} {C : Con}
    (hl : ∀ ds Q R, C ds Q R → ds.length = 1) (hC : ∀ ds Q R, C ds Q R → t_side_levels (conE Q R) (entry 1 ds)) :
    FnG P w K mg base (k + 1) T.a_side_levels T.d_side_levels ["side"] (spM K T.cl T.tb (liftC C)) := by
  refine okD T.x_side_levels sc_side_levels (by decide) hl fun cdv hcdv A outer s H E Ex hK hcl hT hG hr => ?_
  obtain ⟨K', cl', T', P0, H0, io⟩ := E
  obtain rfl : K' = K := hK
  obtain rfl : cl' = T.cl := hcl
  obtain rfl : T' = T.tb := hT
  have LTM : ∀ c ∈ ([0] : List Nat), c < 100 := by decide
  refine ⟨t_side_levels, ?_, hC⟩
  unfold t_side_levels
  refine ds_one ?_
  refine d_ret ?_
  refine de_if ?_ ?_ ?_
  refine dt_isN ?_
  refine de_var 0
  refine de_int
  refine de_fld (by rfl) (fun c h => (T.cls c h).cl) T.n_depth ?_
  refine de_var 0
theorem w_side_routes (T : Txt K mg) {k : Nat} {C : Con}
    (hl : ∀ ds Q R, C ds Q R → ds.length = 2) (hC : ∀ ds Q R, C ds Q R → t_side_routes (conE Q R) (entry 3 ds)) :
    FnG P w K mg base (k + 1) T.a_side_routes T.d_side_routes ["letter", "side"] (spM K T.cl T.tb (liftC C)) := by
  refine okD T.x_side_routes sc_side_routes (by decide) hl fun cdv hcdv A outer s H E Ex hK hcl hT hG hr => ?_
  obtain ⟨K', cl', T', P0, H0, io⟩ := E
  obtain rfl : K' = K := hK
  obtain rfl : cl' = T.cl := hcl
  obtain rfl : T' = T.tb := hT
  have LTM : ∀ c ∈ ([0] : List Nat), c < 100 := by decide
  refine ⟨t_side_routes, ?_, hC⟩
  unfold t_side_routes
  refine ds_one ?_
  refine d_ret ?_
  refine de_if ?_ ?_ ?_
  refine dt_isN ?_
  refine de_var 1
  refine de_tup ?_
  refine da_nil
  refine de_callTy (call_tuple_of) lk_tuple (by rfl) T.z_tuple (by rfl) ?_
  refine da_cons ?_ ?_
  refine de_fz ?_
  refine df_lc (ts := [2]) (by rfl) sc_side_routes.nd (by decide) ?_ (blkOk_by (own := [("path", 2)]) (by show blkC ["letter", "side", "path"] (defScope s_side_routes) _ _ = true; decide +kernel)) (fun _ _ _ _ _ => ?_) (fun _ _ _ _ _ => ?_) (fun _ _ _ _ _ => ?_)
  refine di_tup (by rfl) ?_
  refine de_fld (by rfl) (fun c h => (T.cls c h).cl) T.n_routes ?_
  refine de_var 1
  refine dg_name (i := 2) sc_side_routes.nd (by rfl) (by first | exact Or.inl (by rfl) | exact Or.inr (by rfl))
  refine dts_nil
  refine de_add (by rfl) ?_ ?_
  refine de_var 0
  refine de_var 2
  refine da_nil
theorem w_Tree_init (T : Txt K mg) {k : Nat} {c_is_tint : ConM} {c_side_text : ConM} {c_side_size : ConM} {c_side_levels : ConM} {c_side_routes : ConM} {C : ConI}
    (G_is_tint : FnG P w K mg base k T.a_is_tint T.d_is_tint ["value"] (spM K T.cl T.tb c_is_tint))
    (G_InvalidTint_init : FnG P w K mg base k T.a_InvalidTint_init T.d_InvalidTint_init ["self", "given"] (spX1 (T.cl 100) "given"))
    (G_NotATree_init : FnG P w K mg base k T.a_NotATree_init T.d_NotATree_init ["self", "given"] (spX1 (T.cl 107) "given"))
    (G_side_text : FnG P w K mg base k T.a_side_text T.d_side_text ["side"] (spM K T.cl T.tb c_side_text))
    (G_side_size : FnG P w K mg base k T.a_side_size T.d_side_size ["side"] (spM K T.cl T.tb c_side_size))
    (G_side_levels : FnG P w K mg base k T.a_side_levels T.d_side_levels ["side"] (spM K T.cl T.tb c_side_levels))
    (G_side_routes : FnG P w K mg base k T.a_side_routes T.d_side_routes ["letter", "side"] (spM K T.cl T.tb c_side_routes))
    (hl : ∀ ds Q R, C ds Q R → ds.length + 1 = 4) (hC : ∀ y dx ds Q R, C ds Q R → t_Tree_init c_is_tint c_side_text c_side_size c_side_levels c_side_routes (conI y dx 0 Q R) (entryI 6 y dx 0 ds)) :
    FnG P w K mg base (k + 1 + 1) T.a_Tree_init T.d_Tree_init ["self", "tint", "left", "right"] (spM K T.cl T.tb (initC 0 C)) := by
  refine okI T.x_Tree_init sc_Tree_init (by decide) hl fun cdv hcdv A outer s H E Ex hK hcl hT hG hr => ?_
  obtain ⟨K', cl', T', P0, H0, io⟩ := E
  obtain rfl : K' = K := hK
  obtain rfl : cl' = T.cl := hcl
  obtain rfl : T' = T.tb := hT
  have LTM : ∀ c ∈ ([0] : List Nat), c < 100 := by decide
  refine ⟨t_Tree_init c_is_tint c_side_text c_side_size c_side_levels c_side_routes, ?_, hC⟩
  unfold t_Tree_init
  refine ds_cons ?_ ?_
  refine d_if ?_ ?_ ?_
  refine dt_not ?_
  refine dt_tru (by rfl) ?_
  refine de_call (ks := []) hG G_is_tint (hr.mono (by omega)) (by rfl) T.m_is_tint T.k_is_tint T.b_is_tint_1 tkB ?_ ?_
  refine da_cons ?_ ?_
  refine de_var 1
  refine da_nil
  refine dk_nil
  refine ds_one ?_
  refine d_raise1 (cn := 0) (src := []) hG (by rfl) T.ox_InvalidTint T.xi_InvalidTint T.xt_InvalidTint G_InvalidTint_init (hr.mono (by omega)) T.b_InvalidTint_init_1 (by rfl) T.m_InvalidTint tkB ?_
  refine de_var 1
  refine ds_nil
  refine ds_cons ?_ ?_
  refine d_for (ts := [4]) (passes_of (by rfl)) (by rfl) ?_ ?_ ?_
  refine di_tup (by rfl) ?_
  refine de_tup ?_
  refine da_cons ?_ ?_
  refine de_var 2
  refine da_cons ?_ ?_
  refine de_var 3
  refine da_nil
  refine dg_name (i := 4) sc_Tree_init.nd (by rfl) (by first | exact Or.inl (by rfl) | exact Or.inr (by rfl))
  refine ds_one ?_
  refine d_if ?_ ?_ ?_
  refine PW.pt ?_
  refine dw_and ?_ ?_
  refine dt_notN ?_
  refine de_var 4
  refine dw_and1 ?_
  refine dt_not ?_
  refine dt_tru (by rfl) ?_
  refine de_isT T.it_Tree T.cls (by rfl) (by rfl) T.z_isinstance ?_ (pe_own (by rfl) T.m_Tree)
  refine de_var 4
  refine ds_one ?_
  refine d_raise1 (cn := 7) (src := []) hG (by rfl) T.ox_NotATree T.xi_NotATree T.xt_NotATree G_NotATree_init (hr.mono (by omega)) T.b_NotATree_init_1 (by rfl) T.m_NotATree tkB ?_
  refine de_var 4
  refine ds_nil
  refine ds_cons ?_ ?_
  refine d_fst (by rfl) (fun c h => (T.cls c h).cl) T.n_letter ?_ ?_
  refine de_var 0
  refine de_var 1
  refine ds_cons ?_ ?_
  refine d_fst (by rfl) (fun c h => (T.cls c h).cl) T.n_first ?_ ?_
  refine de_var 0
  refine de_var 2
  refine ds_cons ?_ ?_
  refine d_fst (by rfl) (fun c h => (T.cls c h).cl) T.n_second ?_ ?_
  refine de_var 0
  refine de_var 3
  refine ds_cons ?_ ?_
  refine d_set 5 sc_Tree_init.nd (by rfl) (by first | exact Or.inl (by rfl) | exact Or.inr (by rfl)) ?_
  refine de_and ?_ ?_
  refine de_isN ?_
  refine de_var 2
  refine de_one ?_
  refine de_isN ?_
  refine de_var 3
  refine ds_cons ?_ ?_
  refine d_fst (by rfl) (fun c h => (T.cls c h).cl) T.n_line ?_ ?_
  refine de_var 0
  refine de_if ?_ ?_ ?_
  refine dt_tru (by rfl) ?_
  refine de_var 5
  refine de_var 1
  refine de_joined ?_
  refine .cons ?_ ?_
  refine de_fmt ?_
  refine de_var 1
  refine .cons ?_ ?_
  refine de_str
  refine .cons ?_ ?_
  refine de_fmt ?_
  refine de_call (ks := []) hG G_side_text (hr.mono (by omega)) (by rfl) T.m_side_text T.k_side_text T.b_side_text_1 tkB ?_ ?_
  refine da_cons ?_ ?_
  refine de_var 2
  refine da_nil
  refine dk_nil
  refine .cons ?_ ?_
  refine de_str
  refine .cons ?_ ?_
  refine de_fmt ?_
  refine de_call (ks := []) hG G_side_text (hr.mono (by omega)) (by rfl) T.m_side_text T.k_side_text T.b_side_text_1 tkB ?_ ?_
  refine da_cons ?_ ?_
  refine de_var 3
  refine da_nil
  refine dk_nil
  refine .cons ?_ ?_
  refine de_str
  refine .nil
  refine ds_cons ?_ ?_
  refine d_fst (by rfl) (fun c h => (T.cls c h).cl) T.n_nodes ?_ ?_
  refine de_var 0
  refine de_add (by rfl) ?_ ?_
  refine de_add (by rfl) ?_ ?_
  refine de_int
  refine de_call (ks := []) hG G_side_size (hr.mono (by omega)) (by rfl) T.m_side_size T.k_side_size T.b_side_size_1 tkB ?_ ?_
  refine da_cons ?_ ?_
  refine de_var 2
  refine da_nil
  refine dk_nil
  refine de_call (ks := []) hG G_side_size (hr.mono (by omega)) (by rfl) T.m_side_size T.k_side_size T.b_side_size_1 tkB ?_ ?_
  refine da_cons ?_ ?_
  refine de_var 3
  refine da_nil
  refine dk_nil
  refine ds_cons ?_ ?_
  refine d_fst (by rfl) (fun c h => (T.cls c h).cl) T.n_depth ?_ ?_
  refine de_var 0
  refine de_add (by rfl) ?_ ?_
  refine de_int
  refine de_callB (cr_max (by rfl)) lk_maxL (by rfl) T.z_max (by rfl) ?_
  refine da_cons ?_ ?_
  refine de_fz ?_
  refine df_lst ?_
  refine da_cons ?_ ?_
  refine de_call (ks := []) hG G_side_levels (hr.mono (by omega)) (by rfl) T.m_side_levels T.k_side_levels T.b_side_levels_1 tkB ?_ ?_
  refine da_cons ?_ ?_
  refine de_var 2
  refine da_nil
  refine dk_nil
  refine da_cons ?_ ?_
  refine de_call (ks := []) hG G_side_levels (hr.mono (by omega)) (by rfl) T.m_side_levels T.k_side_levels T.b_side_levels_1 tkB ?_ ?_
  refine da_cons ?_ ?_
  refine de_var 3
  refine da_nil
  refine dk_nil
  refine da_nil
  refine da_nil
  refine ds_one ?_
  refine d_fst (by rfl) (fun c h => (T.cls c h).cl) T.n_routes ?_ ?_
  refine de_var 0
  refine de_add (by rfl) ?_ ?_
  refine de_add (by rfl) ?_ ?_
  refine de_tup ?_
  refine da_cons ?_ ?_
  refine de_str
  refine da_nil
  refine de_call (ks := []) hG G_side_routes (hr.mono (by omega)) (by rfl) T.m_side_routes T.k_side_routes T.b_side_routes_2 tkB ?_ ?_
  refine da_cons ?_ ?_
  refine de_str
  refine da_cons ?_ ?_
  refine de_var 2
  refine da_nil
  refine dk_nil
  refine de_call (ks := []) hG G_side_routes (hr.mono (by omega)) (by rfl) T.m_side_routes T.k_side_routes T.b_side_routes_2 tkB ?_ ?_
  refine da_cons ?_ ?_
  refine de_str
  refine da_cons ?_ ?_
  refine de_var 3
  refine da_nil
  refine dk_nil
theorem w__law_pull (T : Txt K mg) {k : Nat} {C : Con}
    (hl : ∀ ds Q R, C ds Q R → ds.length = 2) (hC : ∀ ds Q R, C ds Q R → t__law_pull (conE Q R) (entry 3 ds)) :
    FnG P w K mg base (k + 1) T.a__law_pull T.d__law_pull ["_law_stock_here", "_law_top"] (spM K T.cl T.tb (liftC C)) := by
  refine okD T.x__law_pull sc__law_pull (by decide) hl fun cdv hcdv A outer s H E Ex hK hcl hT hG hr => ?_
  obtain ⟨K', cl', T', P0, H0, io⟩ := E
  obtain rfl : K' = K := hK
  obtain rfl : cl' = T.cl := hcl
  obtain rfl : T' = T.tb := hT
  have LTM : ∀ c ∈ ([0] : List Nat), c < 100 := by decide
  refine ⟨t__law_pull, ?_, hC⟩
  unfold t__law_pull
  refine ds_cons ?_ ?_
  refine d_asg (ts := []) ?_ ?_
  refine de_add (by rfl) ?_ ?_
  refine de_stk 0
  refine de_int
  refine dg_stk 0
  refine ds_cons ?_ ?_
  refine d_if ?_ ?_ ?_
  refine dt_cmp op_gt (lk_B2 _) ?_ ?_ (nomark _)
  refine de_stk 0
  refine de_int
  refine ds_cons ?_ ?_
  refine d_asg (ts := ([] ++ ([2] ++ []))) ?_ ?_
  refine de_callB (call_divmod) lk_divmod (by rfl) T.z_divmod (by rfl) ?_
  refine da_cons ?_ ?_
  refine de_stk 0
  refine da_cons ?_ ?_
  refine de_var 1
  refine da_nil
  refine dg_tup (by rfl) (by rfl) ?_
  refine dgs_cons ?_ ?_
  refine dg_stk 0
  refine dgs_cons ?_ ?_
  refine dg_name (i := 2) sc__law_pull.nd (by rfl) (by first | exact Or.inl (by rfl) | exact Or.inr (by rfl))
  refine dgs_nil
  refine ds_one ?_
  refine d_ret ?_
  refine de_var 2
  refine ds_nil
  refine ds_cons ?_ ?_
  refine d_asg (ts := []) ?_ ?_
  refine de_mod ?_ ?_
  refine de_callTy (call_int1) lk_int (by rfl) T.z_int (by rfl) ?_
  refine da_cons ?_ ?_
  refine de_add (by rfl) ?_ ?_
  refine de_mul ?_ ?_
  refine de_stk 0
  refine de_int
  refine de_mul ?_ ?_
  refine de_int
  refine de_stk 0
  refine da_nil
  refine de_int
  refine dg_stk 0
  refine ds_one ?_
  refine d_ret ?_
  refine de_mod ?_ ?_
  refine de_callTy (call_int1) lk_int (by rfl) T.z_int (by rfl) ?_
  refine da_cons ?_ ?_
  refine de_fdiv ?_ ?_
  refine de_stk 0
  refine de_int
  refine da_nil
  refine de_var 1
theorem w__law_pick (T : Txt K mg) {k : Nat} {c__law_pull : ConM} {C : Con}
    (G__law_pull : FnG P w K mg base k T.a__law_pull T.d__law_pull ["_law_stock_here", "_law_top"] (spM K T.cl T.tb c__law_pull))
    (hl : ∀ ds Q R, C ds Q R → ds.length = 2) (hC : ∀ ds Q R, C ds Q R → t__law_pick c__law_pull (conE Q R) (entry 2 ds)) :
    FnG P w K mg base (k + 1) T.a__law_pick T.d__law_pick ["_law_stock_here", "_law_menu"] (spM K T.cl T.tb (liftC C)) := by
  refine okD T.x__law_pick sc__law_pick (by decide) hl fun cdv hcdv A outer s H E Ex hK hcl hT hG hr => ?_
  obtain ⟨K', cl', T', P0, H0, io⟩ := E
  obtain rfl : K' = K := hK
  obtain rfl : cl' = T.cl := hcl
  obtain rfl : T' = T.tb := hT
  have LTM : ∀ c ∈ ([0] : List Nat), c < 100 := by decide
  refine ⟨t__law_pick c__law_pull, ?_, hC⟩
  unfold t__law_pick
  refine ds_one ?_
  refine d_ret ?_
  refine de_ix (by rfl) ?_ ?_
  refine de_var 1
  refine de_call (ks := []) hG G__law_pull (hr.mono (by omega)) (by rfl) T.m__law_pull T.k__law_pull T.b__law_pull_2 tkB ?_ ?_
  refine da_cons ?_ ?_
  refine de_var 0
  refine da_cons ?_ ?_
  refine de_callB (cLen (by rfl)) lk_len (by rfl) T.z_len (by rfl) ?_
  refine da_cons ?_ ?_
  refine de_var 1
  refine da_nil
  refine da_nil
  refine dk_nil
theorem w__law_thing (T : Txt K mg) {k : Nat} {c__law_pull : ConM} {c__law_pick : ConM} {C : Con}
    (G__law_pull : FnG P w K mg base k T.a__law_pull T.d__law_pull ["_law_stock_here", "_law_top"] (spM K T.cl T.tb c__law_pull))
    (G__law_pick : FnG P w K mg base k T.a__law_pick T.d__law_pick ["_law_stock_here", "_law_menu"] (spM K T.cl T.tb c__law_pick))
    (hl : ∀ ds Q R, C ds Q R → ds.length = 2) (hC : ∀ ds Q R, C ds Q R → t__law_thing c__law_pull c__law_pick (conE Q R) (entry 3 ds)) :
    FnG P w K mg base (k + 1) T.a__law_thing T.d__law_thing ["_law_stock_here", "_law_good"] (spM K T.cl T.tb (liftC C)) := by
  refine okD T.x__law_thing sc__law_thing (by decide) hl fun cdv hcdv A outer s H E Ex hK hcl hT hG hr => ?_
  obtain ⟨K', cl', T', P0, H0, io⟩ := E
  obtain rfl : K' = K := hK
  obtain rfl : cl' = T.cl := hcl
  obtain rfl : T' = T.tb := hT
  have LTM : ∀ c ∈ ([0] : List Nat), c < 100 := by decide
  refine ⟨t__law_thing c__law_pull c__law_pick, ?_, hC⟩
  unfold t__law_thing
  refine ds_cons ?_ ?_
  refine d_set 2 sc__law_thing.nd (by rfl) (by first | exact Or.inl (by rfl) | exact Or.inr (by rfl)) ?_
  refine de_fz ?_
  refine df_lst ?_
  refine da_cons ?_ ?_
  refine de_str
  refine da_cons ?_ ?_
  refine de_str
  refine da_cons ?_ ?_
  refine de_str
  refine da_cons ?_ ?_
  refine de_str
  refine da_cons ?_ ?_
  refine de_str
  refine da_cons ?_ ?_
  refine de_str
  refine da_cons ?_ ?_
  refine de_bl
  refine da_cons ?_ ?_
  refine de_int
  refine da_cons ?_ ?_
  refine de_tup ?_
  refine da_cons ?_ ?_
  refine de_str
  refine da_nil
  refine da_cons ?_ ?_
  refine de_fz ?_
  refine df_lst ?_
  refine da_cons ?_ ?_
  refine de_str
  refine da_nil
  refine da_cons ?_ ?_
  refine de_dic0
  refine da_cons ?_ ?_
  refine de_str
  refine da_cons ?_ ?_
  refine de_tup ?_
  refine da_nil
  refine da_cons ?_ ?_
  refine de_int
  refine da_nil
  refine ds_cons ?_ ?_
  refine d_if ?_ ?_ ?_
  refine dt_cmp op_gt (lk_B2 _) ?_ ?_ (nomark _)
  refine de_call (ks := []) hG G__law_pull (hr.mono (by omega)) (by rfl) T.m__law_pull T.k__law_pull T.b__law_pull_2 tkB ?_ ?_
  refine da_cons ?_ ?_
  refine de_var 0
  refine da_cons ?_ ?_
  refine de_int
  refine da_nil
  refine dk_nil
  refine de_int
  refine ds_one ?_
  refine d_ret ?_
  refine de_tup ?_
  refine da_cons ?_ ?_
  refine de_call (ks := []) hG G__law_pick (hr.mono (by omega)) (by rfl) T.m__law_pick T.k__law_pick T.b__law_pick_2 tkB ?_ ?_
  refine da_cons ?_ ?_
  refine de_var 0
  refine da_cons ?_ ?_
  refine de_var 1
  refine da_nil
  refine dk_nil
  refine da_cons ?_ ?_
  refine de_bl
  refine da_nil
  refine ds_nil
  refine ds_one ?_
  refine d_ret ?_
  refine de_tup ?_
  refine da_cons ?_ ?_
  refine de_call (ks := []) hG G__law_pick (hr.mono (by omega)) (by rfl) T.m__law_pick T.k__law_pick T.b__law_pick_2 tkB ?_ ?_
  refine da_cons ?_ ?_
  refine de_var 0
  refine da_cons ?_ ?_
  refine de_var 2
  refine da_nil
  refine dk_nil
  refine da_cons ?_ ?_
  refine de_bl
  refine da_nil
theorem w_Tree_str (T : Txt K mg) {k : Nat} {C : Con}
    (hl : ∀ ds Q R, C ds Q R → ds.length = 1) (hC : ∀ ds Q R, C ds Q R → t_Tree_str (conE Q R) (entry 1 ds)) :
    FnG P w K mg base (k + 1) T.a_Tree_str T.d_Tree_str ["self"] (spM K T.cl T.tb (liftC C)) := by
  refine okD T.x_Tree_str sc_Tree_str (by decide) hl fun cdv hcdv A outer s H E Ex hK hcl hT hG hr => ?_
  obtain ⟨K', cl', T', P0, H0, io⟩ := E
  obtain rfl : K' = K := hK
  obtain rfl : cl' = T.cl := hcl
  obtain rfl : T' = T.tb := hT
  have LTM : ∀ c ∈ ([0] : List Nat), c < 100 := by decide
  refine ⟨t_Tree_str, ?_, hC⟩
  unfold t_Tree_str
  refine ds_one ?_
  refine d_ret ?_
  refine de_callTy (cStrX (by rfl) hG hr.units) lk_strX (by rfl) T.z_str (by rfl) ?_
  refine da_cons ?_ ?_
  refine de_fld (by rfl) (fun c h => (T.cls c h).cl) T.n_line ?_
  refine de_var 0
  refine da_nil
theorem w__law_side (T : Txt K mg) {k : Nat} {c_Tree_str : ConM} {C : Con}
    (G_Tree_str : FnG P w K mg base k T.a_Tree_str T.d_Tree_str ["self"] (spM K T.cl T.tb c_Tree_str))
    (hl : ∀ ds Q R, C ds Q R → ds.length = 1) (hC : ∀ ds Q R, C ds Q R → t__law_side c_Tree_str (conE Q R) (entry 1 ds)) :
    FnG P w K mg base (k + 2 + 1) T.a__law_side T.d__law_side ["_law_thing_here"] (spM K T.cl T.tb (liftC C)) := by
  refine okD T.x__law_side sc__law_side (by decide) hl fun cdv hcdv A outer s H E Ex hK hcl hT hG hr => ?_
  obtain ⟨K', cl', T', P0, H0, io⟩ := E
  obtain rfl : K' = K := hK
  obtain rfl : cl' = T.cl := hcl
  obtain rfl : T' = T.tb := hT
  have LTM : ∀ c ∈ ([0] : List Nat), c < 100 := by decide
  refine ⟨t__law_side c_Tree_str, ?_, hC⟩
  unfold t__law_side
  refine ds_one ?_
  refine d_ret ?_
  refine de_if ?_ ?_ ?_
  refine dt_isN ?_
  refine de_var 0
  refine de_str
  refine de_strAny (cs := [0]) (by rfl) hG hr.units T.o_Tree_str T.of_Tree_str G_Tree_str (hr.mono (by omega)) T.b_Tree_str_0 (by rfl) T.z_str (by rfl) ?_
  refine da_cons ?_ ?_
  refine de_var 0
  refine da_nil
theorem w__law_caught (T : Txt K mg) {k : Nat} {C : ConA}
    (hC : ∀ f act m Q R, C act m Q R → t__law_caught f act (conM Q R) (entryM 3 [.v (.ref f)] m)) :
    GotG P w K mg base T.cl T.tb (k) "_law_caught" s__law_caught T.a__law_caught T.d__law_caught ["_law_act", "_law_told", "e"] "_law_act" C := by
  refine ⟨T.x__law_caught, sc__law_caught, rfl, .inl rfl, by decide, by decide, fun cdv A outer s H E Ex hK hcl hT hG hr f act hA => ?_⟩
  obtain ⟨K', cl', T', P0, H0, io⟩ := E
  obtain rfl : K' = K := hK
  obtain rfl : cl' = T.cl := hcl
  obtain rfl : T' = T.tb := hT
  have LTM : ∀ c ∈ ([0] : List Nat), c < 100 := by decide
  refine ⟨t__law_caught f act, ?_, fun m Q R => hC f act m Q R⟩
  unfold t__law_caught
  refine ds_cons ?_ ?_
  refine d_tryAll (by rfl) (by rfl) tkB (fun P1 W1 pn xe tk po sp => ?_) ?_
  refine ds_one ?_
  refine d_set 1 sc__law_caught.nd (by rfl) (by first | exact Or.inl (by rfl) | exact Or.inr (by rfl)) (hA W1 pn xe _ _ P1 tk sp)
  refine hx_named (i := 2) sc__law_caught.nd (by rfl) (by rfl) (.one ⟨rfl, by decide, .inl T.m_InvalidTint⟩) (cat_one T.cx_InvalidTint) (fun ea oe cls dd pn ex P1 hz hfd hcat xi => ?_) ?_
  refine ds_one ?_
  refine d_ret ?_
  refine de_tup ?_
  refine da_cons ?_ ?_
  refine de_str
  refine da_cons ?_ ?_
  refine de_callB (cRepr (by rfl) hG hr.units) lk_repr (by rfl) T.z_repr (by rfl) ?_
  refine da_cons ?_ ?_
  refine de_xf (T.xc_InvalidTint _ hcat) (T.xa_InvalidTint_given _ hcat) hz hfd xi ?_
  refine de_var 2
  refine da_nil
  refine da_nil
  refine hx_named (i := 2) sc__law_caught.nd (by rfl) (by rfl) (.one ⟨rfl, by decide, .inl T.m_NotATree⟩) (cat_one T.cx_NotATree) (fun ea oe cls dd pn ex P1 hz hfd hcat xi => ?_) ?_
  refine ds_one ?_
  refine d_ret ?_
  refine de_tup ?_
  refine da_cons ?_ ?_
  refine de_str
  refine da_cons ?_ ?_
  refine de_callB (cRepr (by rfl) hG hr.units) lk_repr (by rfl) T.z_repr (by rfl) ?_
  refine da_cons ?_ ?_
  refine de_xf (T.xc_NotATree _ hcat) (T.xa_NotATree_given _ hcat) hz hfd xi ?_
  refine de_var 2
  refine da_nil
  refine da_nil
  refine hx_nil
  refine ds_one ?_
  refine d_ret ?_
  refine de_tup ?_
  refine da_cons ?_ ?_
  refine de_str
  refine da_cons ?_ ?_
  refine de_var 1
  refine da_nil
theorem w__law_right (T : Txt K mg) {k : Nat} {c_Tree_init : ConM} {c__law_thing : ConM} {c__law_side : ConM} {c__law_caught : ConA} {c_Tree_str : ConM} {c__law_pick : ConM} {C : Con}
    (G_Tree_init : FnG P w K mg base k T.a_Tree_init T.d_Tree_init ["self", "tint", "left", "right"] (spM K T.cl T.tb c_Tree_init))
    (G__law_thing : FnG P w K mg base k T.a__law_thing T.d__law_thing ["_law_stock_here", "_law_good"] (spM K T.cl T.tb c__law_thing))
    (G__law_side : FnG P w K mg base k T.a__law_side T.d__law_side ["_law_thing_here"] (spM K T.cl T.tb c__law_side))
    (G__law_caught : GotG P w K mg base T.cl T.tb (k + 3) "_law_caught" s__law_caught T.a__law_caught T.d__law_caught ["_law_act", "_law_told", "e"] "_law_act" c__law_caught)
    (G_Tree_str : FnG P w K mg base k T.a_Tree_str T.d_Tree_str ["self"] (spM K T.cl T.tb c_Tree_str))
    (G__law_pick : FnG P w K mg base k T.a__law_pick T.d__law_pick ["_law_stock_here", "_law_menu"] (spM K T.cl T.tb c__law_pick))
    (hTB : LamX.TabB base mg T.cc__law_right T.ct__law_right)
    (hl : ∀ ds Q R, C ds Q R → ds.length = 1) (hC : ∀ ds Q R, C ds Q R → t__law_right c_Tree_init c__law_thing c__law_side c__law_caught c_Tree_str c__law_pick (conE Q R) (entry 10 ds)) :
    FnG P w K mg base (k + 4 + 1) T.a__law_right T.d__law_right ["_law_stock_here"] (spM K T.cl T.tb (liftC C)) := by
  refine okD T.x__law_right sc__law_right (by decide) hl fun cdv hcdv A outer s H E Ex hK hcl hT hG hr => ?_
  obtain ⟨K', cl', T', P0, H0, io⟩ := E
  obtain rfl : K' = K := hK
  obtain rfl : cl' = T.cl := hcl
  obtain rfl : T' = T.tb := hT
  have LTM : ∀ c ∈ ([0] : List Nat), c < 100 := by decide
  have hcode : cdv = .ref T.cc__law_right := hcdv.symm.trans T.cd__law_right
  refine ⟨t__law_right c_Tree_init c__law_thing c__law_side c__law_caught c_Tree_str c__law_pick, ?_, hC⟩
  unfold t__law_right
  refine ds_cons ?_ ?_
  refine d_set 1 sc__law_right.nd (by rfl) (by first | exact Or.inl (by rfl) | exact Or.inr (by rfl)) ?_
  refine de_fz ?_
  refine df_lst ?_
  refine da_cons ?_ ?_
  refine de_non
  refine da_cons ?_ ?_
  refine de_make (fz := true) (cn := 0) (ks := []) hG T.k_Tree G_Tree_init (hr.mono (by omega)) (by rfl) T.m_Tree T.b_Tree_init_1 tkB ?_ ?_
  refine da_cons ?_ ?_
  refine de_str
  refine da_nil
  refine dk_nil
  refine da_cons ?_ ?_
  refine de_make (fz := true) (cn := 0) (ks := []) hG T.k_Tree G_Tree_init (hr.mono (by omega)) (by rfl) T.m_Tree T.b_Tree_init_2 tkB ?_ ?_
  refine da_cons ?_ ?_
  refine de_str
  refine da_cons ?_ ?_
  refine de_make (fz := true) (cn := 0) (ks := []) hG T.k_Tree G_Tree_init (hr.mono (by omega)) (by rfl) T.m_Tree T.b_Tree_init_1 tkB ?_ ?_
  refine da_cons ?_ ?_
  refine de_str
  refine da_nil
  refine dk_nil
  refine da_nil
  refine dk_nil
  refine da_cons ?_ ?_
  refine de_make (fz := true) (cn := 0) (ks := []) hG T.k_Tree G_Tree_init (hr.mono (by omega)) (by rfl) T.m_Tree T.b_Tree_init_3 tkB ?_ ?_
  refine da_cons ?_ ?_
  refine de_str
  refine da_cons ?_ ?_
  refine de_non
  refine da_cons ?_ ?_
  refine de_make (fz := true) (cn := 0) (ks := []) hG T.k_Tree G_Tree_init (hr.mono (by omega)) (by rfl) T.m_Tree T.b_Tree_init_1 tkB ?_ ?_
  refine da_cons ?_ ?_
  refine de_str
  refine da_nil
  refine dk_nil
  refine da_nil
  refine dk_nil
  refine da_nil
  refine ds_cons ?_ ?_
  refine d_asg (ts := ([5] ++ ([6] ++ ([7] ++ [])))) ?_ ?_
  refine de_tup ?_
  refine da_cons ?_ ?_
  refine de_call (ks := []) hG G__law_thing (hr.mono (by omega)) (by rfl) T.m__law_thing T.k__law_thing T.b__law_thing_2 tkB ?_ ?_
  refine da_cons ?_ ?_
  refine de_var 0
  refine da_cons ?_ ?_
  refine de_fz ?_
  refine df_lst ?_
  refine da_cons ?_ ?_
  refine de_str
  refine da_cons ?_ ?_
  refine de_str
  refine da_cons ?_ ?_
  refine de_str
  refine da_nil
  refine da_nil
  refine dk_nil
  refine da_cons ?_ ?_
  refine de_call (ks := []) hG G__law_thing (hr.mono (by omega)) (by rfl) T.m__law_thing T.k__law_thing T.b__law_thing_2 tkB ?_ ?_
  refine da_cons ?_ ?_
  refine de_var 0
  refine da_cons ?_ ?_
  refine de_var 1
  refine da_nil
  refine dk_nil
  refine da_cons ?_ ?_
  refine de_call (ks := []) hG G__law_thing (hr.mono (by omega)) (by rfl) T.m__law_thing T.k__law_thing T.b__law_thing_2 tkB ?_ ?_
  refine da_cons ?_ ?_
  refine de_var 0
  refine da_cons ?_ ?_
  refine de_var 1
  refine da_nil
  refine dk_nil
  refine da_nil
  refine dg_tup (by rfl) (by rfl) ?_
  refine dgs_cons ?_ ?_
  refine dg_name (i := 5) sc__law_right.nd (by rfl) (by first | exact Or.inl (by rfl) | exact Or.inr (by rfl))
  refine dgs_cons ?_ ?_
  refine dg_name (i := 6) sc__law_right.nd (by rfl) (by first | exact Or.inl (by rfl) | exact Or.inr (by rfl))
  refine dgs_cons ?_ ?_
  refine dg_name (i := 7) sc__law_right.nd (by rfl) (by first | exact Or.inl (by rfl) | exact Or.inr (by rfl))
  refine dgs_nil
  refine ds_cons ?_ ?_
  refine d_set 2 sc__law_right.nd (by rfl) (by first | exact Or.inl (by rfl) | exact Or.inr (by rfl)) ?_
  refine de_tup ?_
  refine da_cons ?_ ?_
  refine de_str
  refine da_cons ?_ ?_
  refine de_ix (by rfl) ?_ ?_
  refine de_var 5
  refine de_int
  refine da_nil
  refine ds_cons ?_ ?_
  refine d_if ?_ ?_ ?_
  refine PW.pt ?_
  refine dw_or ?_ ?_
  refine dt_notN ?_
  refine de_ix (by rfl) ?_ ?_
  refine de_var 6
  refine de_int
  refine dw_or1 ?_
  refine dt_notN ?_
  refine de_ix (by rfl) ?_ ?_
  refine de_var 7
  refine de_int
  refine ds_one ?_
  refine d_set 2 sc__law_right.nd (by rfl) (by first | exact Or.inl (by rfl) | exact Or.inr (by rfl)) ?_
  refine de_tup ?_
  refine da_cons ?_ ?_
  refine de_str
  refine da_cons ?_ ?_
  refine de_add (by rfl) ?_ ?_
  refine de_add (by rfl) ?_ ?_
  refine de_add (by rfl) ?_ ?_
  refine de_add (by rfl) ?_ ?_
  refine de_add (by rfl) ?_ ?_
  refine de_callTy (cStrX (by rfl) hG hr.units) lk_strX (by rfl) T.z_str (by rfl) ?_
  refine da_cons ?_ ?_
  refine de_ix (by rfl) ?_ ?_
  refine de_var 5
  refine de_int
  refine da_nil
  refine de_str
  refine de_call (ks := []) hG G__law_side (hr.mono (by omega)) (by rfl) T.m__law_side T.k__law_side T.b__law_side_1 tkB ?_ ?_
  refine da_cons ?_ ?_
  refine de_ix (by rfl) ?_ ?_
  refine de_var 6
  refine de_int
  refine da_nil
  refine dk_nil
  refine de_str
  refine de_call (ks := []) hG G__law_side (hr.mono (by omega)) (by rfl) T.m__law_side T.k__law_side T.b__law_side_1 tkB ?_ ?_
  refine da_cons ?_ ?_
  refine de_ix (by rfl) ?_ ?_
  refine de_var 7
  refine de_int
  refine da_nil
  refine dk_nil
  refine de_str
  refine da_nil
  refine ds_nil
  refine ds_cons ?_ ?_
  refine d_for (ts := ([8] ++ ([9] ++ []))) (passes_of (by rfl)) (by rfl) ?_ ?_ ?_
  refine di_list (by rfl) ?_
  refine de_fz ?_
  refine df_lst ?_
  refine da_cons ?_ ?_
  refine de_tup ?_
  refine da_cons ?_ ?_
  refine de_str
  refine da_cons ?_ ?_
  refine de_var 7
  refine da_nil
  refine da_cons ?_ ?_
  refine de_tup ?_
  refine da_cons ?_ ?_
  refine de_str
  refine da_cons ?_ ?_
  refine de_var 6
  refine da_nil
  refine da_cons ?_ ?_
  refine de_tup ?_
  refine da_cons ?_ ?_
  refine de_str
  refine da_cons ?_ ?_
  refine de_var 5
  refine da_nil
  refine da_nil
  refine dg_tup (by rfl) (by rfl) ?_
  refine dgs_cons ?_ ?_
  refine dg_name (i := 8) sc__law_right.nd (by rfl) (by first | exact Or.inl (by rfl) | exact Or.inr (by rfl))
  refine dgs_cons ?_ ?_
  refine dg_name (i := 9) sc__law_right.nd (by rfl) (by first | exact Or.inl (by rfl) | exact Or.inr (by rfl))
  refine dgs_nil
  refine ds_one ?_
  refine d_if ?_ ?_ ?_
  refine dt_not ?_
  refine dt_tru (by rfl) ?_
  refine de_ix (by rfl) ?_ ?_
  refine de_var 9
  refine de_int
  refine ds_one ?_
  refine d_set 2 sc__law_right.nd (by rfl) (by first | exact Or.inl (by rfl) | exact Or.inr (by rfl)) ?_
  refine de_tup ?_
  refine da_cons ?_ ?_
  refine de_var 8
  refine da_cons ?_ ?_
  refine de_callB (cRepr (by rfl) hG hr.units) lk_repr (by rfl) T.z_repr (by rfl) ?_
  refine da_cons ?_ ?_
  refine de_ix (by rfl) ?_ ?_
  refine de_var 9
  refine de_int
  refine da_nil
  refine da_nil
  refine ds_nil
  refine ds_cons ?_ ?_
  refine d_set 3 sc__law_right.nd (by rfl) (by first | exact Or.inl (by rfl) | exact Or.inr (by rfl)) ?_
  refine de_own ?_
  refine df_lst ?_
  refine da_cons ?_ ?_
  refine lam_de (k := k + 2) G__law_caught (by rfl) hG (by rfl) T.m__law_caught T.k__law_caught T.bg__law_caught hTB hcode T.tbm__law_right (hr.mono (by omega)) (LamX.lamS_by (by show LamX.lamSB (defScope s__law_right) _ = true; decide +kernel)) (by rfl) (fun _ _ _ _ _ => (by rfl)) tkB (fun A outer s H Ex f c P0 H0 io hG hr => ?_)
  refine de_strS (cs := [0]) (by rfl) hG T.o_Tree_str T.of_Tree_str G_Tree_str (hr.mono (by omega)) T.b_Tree_str_0 (by rfl) T.z_str (by rfl) ?_
  refine da_cons ?_ ?_
  refine de_make (fz := true) (cn := 0) (ks := []) hG T.k_Tree G_Tree_init (hr.mono (by omega)) (by rfl) T.m_Tree T.b_Tree_init_3 tkL ?_ ?_
  refine da_cons ?_ ?_
  refine de_ix (by rfl) ?_ ?_
  refine de_var 5
  refine de_int
  refine da_cons ?_ ?_
  refine de_ix (by rfl) ?_ ?_
  refine de_var 6
  refine de_int
  refine da_cons ?_ ?_
  refine de_ix (by rfl) ?_ ?_
  refine de_var 7
  refine de_int
  refine da_nil
  refine dk_nil
  refine da_nil
  refine da_nil
  refine ds_cons ?_ ?_
  refine d_expr ?_
  refine de_lm PySem.F.slot_list_append PySem.F.type_list_append mt_append lk_app ?_ ?_
  refine de_var 3
  refine da_cons ?_ ?_
  refine lam_de (k := k + 2) G__law_caught (by rfl) hG (by rfl) T.m__law_caught T.k__law_caught T.bg__law_caught hTB hcode T.tbm__law_right (hr.mono (by omega)) (LamX.lamS_by (by show LamX.lamSB (defScope s__law_right) _ = true; decide +kernel)) (by rfl) (fun _ _ _ _ _ => (by rfl)) tkB (fun A outer s H Ex f c P0 H0 io hG hr => ?_)
  refine de_strS (cs := [0]) (by rfl) hG T.o_Tree_str T.of_Tree_str G_Tree_str (hr.mono (by omega)) T.b_Tree_str_0 (by rfl) T.z_str (by rfl) ?_
  refine da_cons ?_ ?_
  refine de_make0 (fz := true) (cn := 0) (ks := ["right", "tint", "left"]) hG T.k_Tree G_Tree_init (hr.mono (by omega)) (by rfl) T.m_Tree T.b_Tree_init_0_right_tint_left tkL ?_
  refine dk_cons ?_ ?_
  refine de_ix (by rfl) ?_ ?_
  refine de_var 7
  refine de_int
  refine dk_cons ?_ ?_
  refine de_ix (by rfl) ?_ ?_
  refine de_var 5
  refine de_int
  refine dk_cons ?_ ?_
  refine de_ix (by rfl) ?_ ?_
  refine de_var 6
  refine de_int
  refine dk_nil
  refine da_nil
  refine da_nil
  refine ds_cons ?_ ?_
  refine d_if ?_ ?_ ?_
  refine dt_cmpV (opNe (by rfl) hr.units) lka_ne ?_ ?_ (nomark _)
  refine de_var 3
  refine de_fz ?_
  refine df_lst ?_
  refine da_cons ?_ ?_
  refine de_var 2
  refine da_cons ?_ ?_
  refine de_var 2
  refine da_nil
  refine ds_one ?_
  refine d_ret ?_
  refine de_bl
  refine ds_nil
  refine ds_cons ?_ ?_
  refine d_set 4 sc__law_right.nd (by rfl) (by first | exact Or.inl (by rfl) | exact Or.inr (by rfl)) ?_
  refine de_call (ks := []) hG G__law_pick (hr.mono (by omega)) (by rfl) T.m__law_pick T.k__law_pick T.b__law_pick_2 tkB ?_ ?_
  refine da_cons ?_ ?_
  refine de_var 0
  refine da_cons ?_ ?_
  refine de_fz ?_
  refine df_lst ?_
  refine da_cons ?_ ?_
  refine de_non
  refine da_cons ?_ ?_
  refine de_str
  refine da_cons ?_ ?_
  refine de_str
  refine da_cons ?_ ?_
  refine de_int
  refine da_cons ?_ ?_
  refine de_bl
  refine da_nil
  refine da_nil
  refine dk_nil
  refine ds_one ?_
  refine d_ret ?_
  refine de_and ?_ ?_
  refine de_cmp (opEq (by rfl) hr.units) lk_eq ?_ ?_ (nomark _)
  refine lam_de (k := k + 2) G__law_caught (by rfl) hG (by rfl) T.m__law_caught T.k__law_caught T.bg__law_caught hTB hcode T.tbm__law_right (hr.mono (by omega)) (LamX.lamS_by (by show LamX.lamSB (defScope s__law_right) _ = true; decide +kernel)) (by rfl) (fun _ _ _ _ _ => (by rfl)) tkB (fun A outer s H Ex f c P0 H0 io hG hr => ?_)
  refine de_make (fz := true) (cn := 0) (ks := []) hG T.k_Tree G_Tree_init (hr.mono (by omega)) (by rfl) T.m_Tree T.b_Tree_init_1 tkL ?_ ?_
  refine da_cons ?_ ?_
  refine de_var 4
  refine da_nil
  refine dk_nil
  refine de_tup ?_
  refine da_cons ?_ ?_
  refine de_str
  refine da_cons ?_ ?_
  refine de_callB (cRepr (by rfl) hG hr.units) lk_repr (by rfl) T.z_repr (by rfl) ?_
  refine da_cons ?_ ?_
  refine de_var 4
  refine da_nil
  refine da_nil
  refine de_one ?_
  refine de_cmp (opEq (by rfl) hr.units) lk_eq ?_ ?_ (nomark _)
  refine de_strS (cs := [0]) (by rfl) hG T.o_Tree_str T.of_Tree_str G_Tree_str (hr.mono (by omega)) T.b_Tree_str_0 (by rfl) T.z_str (by rfl) ?_
  refine da_cons ?_ ?_
  refine de_make (fz := true) (cn := 0) (ks := []) hG T.k_Tree G_Tree_init (hr.mono (by omega)) (by rfl) T.m_Tree T.b_Tree_init_1 tkB ?_ ?_
  refine da_cons ?_ ?_
  refine de_str
  refine da_nil
  refine dk_nil
  refine da_nil
  refine de_str
theorem w__law_stock (T : Txt K mg) {k : Nat} {C : Con}
    (hl : ∀ ds Q R, C ds Q R → ds.length = 2) (hC : ∀ ds Q R, C ds Q R → t__law_stock (conE Q R) (entry 5 ds)) :
    FnG P w K mg base (k + 1) T.a__law_stock T.d__law_stock ["_law_cells", "_law_turn"] (spM K T.cl T.tb (liftC C)) := by
  refine okD T.x__law_stock sc__law_stock (by decide) hl fun cdv hcdv A outer s H E Ex hK hcl hT hG hr => ?_
  obtain ⟨K', cl', T', P0, H0, io⟩ := E
  obtain rfl : K' = K := hK
  obtain rfl : cl' = T.cl := hcl
  obtain rfl : T' = T.tb := hT
  have LTM : ∀ c ∈ ([0] : List Nat), c < 100 := by decide
  refine ⟨t__law_stock, ?_, hC⟩
  unfold t__law_stock
  refine ds_cons ?_ ?_
  refine d_set 2 sc__law_stock.nd (by rfl) (by first | exact Or.inl (by rfl) | exact Or.inr (by rfl)) ?_
  refine de_if ?_ ?_ ?_
  refine dt_cmp op_lt (lk_B2 _) ?_ ?_ (nomark _)
  refine de_var 1
  refine de_callB (cLen (by rfl)) lk_len (by rfl) T.z_len (by rfl) ?_
  refine da_cons ?_ ?_
  refine de_var 0
  refine da_nil
  refine de_ix (by rfl) ?_ ?_
  refine de_var 0
  refine de_var 1
  refine de_add (by rfl) ?_ ?_
  refine de_mul ?_ ?_
  refine de_int
  refine de_var 1
  refine de_int
  refine ds_cons ?_ ?_
  refine d_set 3 sc__law_stock.nd (by rfl) (by first | exact Or.inl (by rfl) | exact Or.inr (by rfl)) ?_
  refine de_add (by rfl) ?_ ?_
  refine de_int
  refine de_mul ?_ ?_
  refine de_int
  refine de_var 1
  refine ds_cons ?_ ?_
  refine d_for (ts := [4]) (passes_of (by rfl)) (by rfl) ?_ ?_ ?_
  refine di_list (by rfl) ?_
  refine de_add (by rfl) ?_ ?_
  refine de_slice (by rfl) ?_ ?_ ?_
  refine de_var 0
  refine do_none
  refine do_some ?_
  refine de_int
  refine de_fz ?_
  refine df_lst ?_
  refine da_cons ?_ ?_
  refine de_var 2
  refine da_nil
  refine dg_name (i := 4) sc__law_stock.nd (by rfl) (by first | exact Or.inl (by rfl) | exact Or.inr (by rfl))
  refine ds_one ?_
  refine d_set 3 sc__law_stock.nd (by rfl) (by first | exact Or.inl (by rfl) | exact Or.inr (by rfl)) ?_
  refine de_mod ?_ ?_
  refine de_callTy (call_int1) lk_int (by rfl) T.z_int (by rfl) ?_
  refine da_cons ?_ ?_
  refine de_add (by rfl) ?_ ?_
  refine de_mul ?_ ?_
  refine de_var 3
  refine de_int
  refine de_var 4
  refine da_nil
  refine de_int
  refine ds_one ?_
  refine d_ret ?_
  refine de_mkStk ?_
  refine da_cons ?_ ?_
  refine de_if ?_ ?_ ?_
  refine PW.pt ?_
  refine dw_or ?_ ?_
  refine dt_cmp op_lt (lk_B2 _) ?_ ?_ (nomark _)
  refine de_var 2
  refine de_int
  refine dw_or1 ?_
  refine dt_cmp op_ge (lk_B2 _) ?_ ?_ (nomark _)
  refine de_var 2
  refine de_pow ?_ ?_
  refine de_int
  refine de_int
  refine de_callB (call_abs) lk_abs (by rfl) T.z_abs (by rfl) ?_
  refine da_cons ?_ ?_
  refine de_var 2
  refine da_nil
  refine de_int
  refine da_cons ?_ ?_
  refine de_var 3
  refine da_cons ?_ ?_
  refine de_int
  refine da_nil
theorem w_law (T : Txt K mg) {k : Nat} {c__law_right : ConM} {c__law_stock : ConM} {C : Con}
    (G__law_right : FnG P w K mg base k T.a__law_right T.d__law_right ["_law_stock_here"] (spM K T.cl T.tb c__law_right))
    (G__law_stock : FnG P w K mg base k T.a__law_stock T.d__law_stock ["_law_cells", "_law_turn"] (spM K T.cl T.tb c__law_stock))
    (hl : ∀ ds Q R, C ds Q R → ds.length = 1) (hC : ∀ ds Q R, C ds Q R → t_law c__law_right c__law_stock (conE Q R) (entry 2 ds)) :
    FnG P w K mg base (k + 1) T.a_law T.d_law ["_law_cells"] (spM K T.cl T.tb (liftC C)) := by
  refine okD T.x_law sc_law (by decide) hl fun cdv hcdv A outer s H E Ex hK hcl hT hG hr => ?_
  obtain ⟨K', cl', T', P0, H0, io⟩ := E
  obtain rfl : K' = K := hK
  obtain rfl : cl' = T.cl := hcl
  obtain rfl : T' = T.tb := hT
  have LTM : ∀ c ∈ ([0] : List Nat), c < 100 := by decide
  refine ⟨t_law c__law_right c__law_stock, ?_, hC⟩
  unfold t_law
  refine ds_one ?_
  refine d_ret ?_
  refine de_callB (cr_all (by rfl)) lk_all (by rfl) T.z_all (by rfl) ?_
  refine da_cons ?_ ?_
  refine de_fz ?_
  refine df_lc (ts := [1]) (by rfl) sc_law.nd (by decide) ?_ (blkOk_by (own := [("_law_turn", 1)]) (by show blkC ["_law_cells", "_law_turn"] (defScope s_law) _ _ = true; decide +kernel)) (fun _ _ _ _ _ => ?_) (fun _ _ _ _ _ => ?_) (fun _ _ _ _ _ => ?_)
  refine di_range1 (by rfl) T.z_range ?_
  refine da_cons ?_ ?_
  refine de_callB (call_max2 (by rfl)) lk_max2 (by rfl) T.z_max (by rfl) ?_
  refine da_cons ?_ ?_
  refine de_int
  refine da_cons ?_ ?_
  refine de_callB (call_min2 (by rfl)) lk_min2 (by rfl) T.z_min (by rfl) ?_
  refine da_cons ?_ ?_
  refine de_callB (cLen (by rfl)) lk_len (by rfl) T.z_len (by rfl) ?_
  refine da_cons ?_ ?_
  refine de_var 0
  refine da_nil
  refine da_cons ?_ ?_
  refine de_int
  refine da_nil
  refine da_nil
  refine da_nil
  refine dg_name (i := 1) sc_law.nd (by rfl) (by first | exact Or.inl (by rfl) | exact Or.inr (by rfl))
  refine dts_nil
  refine de_call (ks := []) hG G__law_right (hr.mono (by omega)) (by rfl) T.m__law_right T.k__law_right T.b__law_right_1 takes0 ?_ ?_
  refine da_cons ?_ ?_
  refine de_call (ks := []) hG G__law_stock (hr.mono (by omega)) (by rfl) T.m__law_stock T.k__law_stock T.b__law_stock_2 takes0 ?_ ?_
  refine da_cons ?_ ?_
  refine de_var 0
  refine da_cons ?_ ?_
  refine de_var 1
  refine da_nil
  refine dk_nil
  refine da_nil
  refine dk_nil
  refine da_nil
end
end K05

namespace K05
open PySem L2 DL
def cPull : Con := fun ds Q _ => ∃ top : Int, ds = [.stk, .v (.int top)] ∧ 0 < top ∧ top < 1073741824 ∧ ∀ r : Int, 0 ≤ r → r < top → Q (.v (.int r))
theorem p_pull (ds : List D) (Q : D → Prop) (R : XD → Prop) (h : cPull ds Q R) : t__law_pull (conE Q R) (entry 3 ds) := by
  obtain ⟨top, rfl, h0, h1, hq⟩ := h
  simp [t__law_pull, stkOk, CDiv, CMul]
  refine fun z hz => ⟨by omega, fun y hy => ?_⟩
  split
  · exact fun z hz => ⟨⟨h0, h1⟩, Int.ediv_nonneg hz (Int.le_of_lt h0), hq _ (Int.emod_nonneg _ (by omega)) (Int.emod_lt_of_pos _ h0)⟩
  · refine fun z hz hz2 c hc => ⟨⟨Int.emod_nonneg _ (by decide), Int.lt_trans (Int.emod_lt_of_pos _ (by decide)) (by decide)⟩, fun u hu hu2 => ⟨h0, hq _ (Int.emod_nonneg _ (by omega)) (Int.emod_lt_of_pos _ h0)⟩⟩
def cPick : Con := fun ds Q _ => ∃ (m : D) (xs : List D), ds = [.stk, m] ∧ (m = .lst xs ∨ m = .tup xs) ∧ 0 < xs.length ∧ xs.length < 1000000 ∧ ∀ x ∈ xs, Q x
theorem p_pick (ds : List D) (Q : D → Prop) (R : XD → Prop) (h : cPick ds Q R) : t__law_pick (liftC cPull) (conE Q R) (entry 2 ds) := by
  obtain ⟨m, xs, rfl, hm, h0, h1, hq⟩ := h
  rcases hm with rfl | rfl
  all_goals
    simp [t__law_pick]
    refine ⟨xs.length, rfl, by omega, by omega, fun r r0 r1 => ?_⟩
    obtain ⟨x, hx, hm⟩ := atI_in xs r r0 r1
    simp [hx, hq x hm]
theorem stock_loop {a b c : Sl} : ∀ (is : List Int) (De : DEnds) (y : Int) (s : Sl), 0 ≤ y → y < 2147483648 → (∀ (y : Int) (s : Sl), 0 ≤ y → y < 2147483648 → De.nx ⟨[a, b, c, .d (.v (.int y)), s], m0⟩) →
    dForL (dName 4) (dSet 3 (dOp dMod (dCB dInt (dCons (dOp dAdd (dOp dMul (dVar 3) (dC (.int 31081))) (dVar 4)) dNil)) (dC (.int 2147483587)))) De (is.map fun i => .v (.int i)) ⟨[a, b, c, .d (.v (.int y)), s], m0⟩
  | [], De, y, s, h0, h1, h => h y s h0 h1
  | i :: is, De, y, s, h0, h1, h => by
    have ih := stock_loop (a := a) (b := b) (c := c) is De ((y * 31081 + i) % 2147483587) (.d (.v (.int i))) (Int.emod_nonneg _ (by decide)) (Int.lt_trans (Int.emod_lt_of_pos _ (by decide)) (by decide)) h
    rw [List.map_cons]
    unfold dForL
    simp [CMul]
    simpa using ih
def cStock : Con := fun ds Q _ => ∃ (ns : List Int) (t : Int), ds = [.kst (ns.map fun i => .v (.int i)), .v (.int t)] ∧ 0 ≤ t ∧ t < 64 ∧ ns.length ≤ 63 ∧ Q .stk
theorem p_stock (ds : List D) (Q : D → Prop) (R : XD → Prop) (h : cStock ds Q R) : t__law_stock (conE Q R) (entry 5 ds) := by
  obtain ⟨ns, t, rfl, h0, h1, hl, hq⟩ := h
  have hcut : ∃ cs : List Int, cutD (ns.map fun i => D.v (.int i)) none (some 5) = cs.map (fun i => D.v (.int i)) ∧ cs.length ≤ 63 := by
    unfold cutD
    rw [← List.map_drop, ← List.map_take]
    refine ⟨_, rfl, ?_⟩
    rw [List.length_take, List.length_drop]
    omega
  obtain ⟨cs, hcs, hcl⟩ := hcut
  have fin : ∀ (z y : Int) (s : Sl), 0 ≤ y → y < 2147483648 → dRet (dMkStk (dCons (dIf (dOr (dTest (dOp dLt (dVar 2) (dC (.int 0)))) (dTest (dOp dGe (dVar 2) (dOp dPow (dC (.int 10)) (dC (.int 18)))))) (dCB dAbs (dCons (dVar 2) dNil)) (dC (.int 0))) (dCons (dVar 3) (dCons (dC (.int 0)) dNil)))) (conE Q R) ⟨[.d (.kst (ns.map fun i => .v (.int i))), .d (.v (.int t)), .d (.v (.int z)), .d (.v (.int y)), s], m0⟩ := fun z y s y0 y1 => by
    by_cases hz : z < 0
    · simp [CPow, hz]
      exact ⟨by omega, y0, y1, hq⟩
    · by_cases h2 : 1000000000000000000 ≤ z
      · simp [CPow, hz, h2]
        exact ⟨by omega, y0, y1, hq⟩
      · simp [CPow, hz, h2]
        exact ⟨y0, y1, hq⟩
  have key : ∀ z : Int, 1 ≤ sizeLine ∧ (cutD (ns.map fun i => D.v (.int i)) none (some 5)).length + 1 ≤ sizeLine ∧ dForL (dName 4) (dSet 3 (dOp dMod (dCB dInt (dCons (dOp dAdd (dOp dMul (dVar 3) (dC (.int 31081))) (dVar 4)) dNil)) (dC (.int 2147483587)))) { nx := dRet (dMkStk (dCons (dIf (dOr (dTest (dOp dLt (dVar 2) (dC (.int 0)))) (dTest (dOp dGe (dVar 2) (dOp dPow (dC (.int 10)) (dC (.int 18)))))) (dCB dAbs (dCons (dVar 2) dNil)) (dC (.int 0))) (dCons (dVar 3) (dCons (dC (.int 0)) dNil)))) (conE Q R), rt := fun d x => Q d, ex := fun e x => R e } (cutD (ns.map fun i => D.v (.int i)) none (some 5) ++ [D.v (.int z)]) ⟨[.d (.kst (ns.map fun i => .v (.int i))), .d (.v (.int t)), .d (.v (.int z)), .d (.v (.int (90001 + 6143 * t))), .no], m0⟩ := fun z => by
    rw [hcs]
    refine ⟨by rw [szl]; decide, by rw [List.length_map, szl]; omega, ?_⟩
    have e : (cs.map fun i => D.v (.int i)) ++ [D.v (.int z)] = (cs ++ [z]).map fun i => D.v (.int i) := by simp
    rw [e]
    exact stock_loop (cs ++ [z]) _ _ _ (by omega) (by omega) fun y s y0 y1 => fin z y s y0 y1
  simp [t__law_stock, CMul]
  split
  · rename_i hlt
    obtain ⟨d, e, hm⟩ := atI_in (ns.map fun i => D.v (.int i)) t h0 (by rw [List.length_map]; exact hlt)
    rw [e]
    obtain ⟨z, _, rfl⟩ := List.mem_map.mp hm
    exact key z
  · exact key _
end K05

namespace K05
open PySem L2 DL
def c0 : Con := fun _ _ _ => False
def prev (c : Nat → Con) : Nat → Con
  | 0 => c0
  | n + 1 => c n
def cT (f : B → D) : Con := fun ds Q _ => ∃ b : B, ds = [encT b] ∧ b.ok ∧ b.size ≤ 64 ∧ b.isNil = false ∧ Q (f b)
def cT0 (f : B → D) : Con := fun ds Q _ => ∃ b : B, ds = [encT b] ∧ b.ok ∧ b.size ≤ 64 ∧ Q (f b)
theorem p_str (ds : List D) (Q : D → Prop) (R : XD → Prop) (h : cT (fun b => .v (.str b.line)) ds Q R) : t_Tree_str (conE Q R) (entry 1 ds) := by
  obtain ⟨b, rfl, hb, h64, hn, hq⟩ := h
  cases b with
  | nil => simp at hn
  | node c l r => simpa [t_Tree_str, encT] using hq
theorem p_side_text (ds : List D) (Q : D → Prop) (R : XD → Prop) (h : cT0 (fun b => .v (.str b.line)) ds Q R) : t_side_text (conE Q R) (entry 1 ds) := by
  obtain ⟨b, rfl, hb, h64, hq⟩ := h
  cases b with
  | nil => simpa [t_side_text, encT, B.line] using hq
  | node c l r => simpa [t_side_text, encT] using hq
theorem p_side_size (ds : List D) (Q : D → Prop) (R : XD → Prop) (h : cT0 (fun b => .v (.int b.size)) ds Q R) : t_side_size (conE Q R) (entry 1 ds) := by
  obtain ⟨b, rfl, hb, h64, hq⟩ := h
  cases b with
  | nil => simpa [t_side_size, encT, B.size] using hq
  | node c l r => simpa [t_side_size, encT] using hq
theorem p_side_levels (ds : List D) (Q : D → Prop) (R : XD → Prop) (h : cT0 (fun b => .v (.int b.depth)) ds Q R) : t_side_levels (conE Q R) (entry 1 ds) := by
  obtain ⟨b, rfl, hb, h64, hq⟩ := h
  cases b with
  | nil => simpa [t_side_levels, encT, B.depth] using hq
  | node c l r => simpa [t_side_levels, encT] using hq
def cRoutes : Con := fun ds Q _ => ∃ (c : Str) (b : B), ds = [.v (.str c), encT b] ∧ b.ok ∧ b.size ≤ 64 ∧ c.length ≤ 4 ∧ Q (.tup (b.routes.map fun x => .v (.str (c ++ x))))
theorem p_side_routes (ds : List D) (Q : D → Prop) (R : XD → Prop) (h : cRoutes ds Q R) : t_side_routes (conE Q R) (entry 3 ds) := by
  obtain ⟨w, b, rfl, hb, h64, hw, hq⟩ := h
  cases b with
  | nil => simpa [t_side_routes, encT, B.routes] using hq
  | node c l r =>
    simp [t_side_routes, encT]
    refine lc_fun (fun d => match d with | .v (.str x) => .v (.str (w ++ x)) | d => d) _ (by rw [List.length_map, routes_len, szl]; omega) (fun d hd k hk => ?_) ?_
    · obtain ⟨x, hx, rfl⟩ := List.mem_map.mp hd
      have := routes_txt _ x hx
      have := depth_le (B.node c l r)
      simp
      exact ⟨by rw [szl]; omega, hk _⟩
    · rw [List.map_map]; exact hq
def cInit : ConI := fun ds Q _ => ∃ (c : Str) (l r : B), ds = [.v (.str c), encT l, encT r] ∧ let1 c ∧ l.ok ∧ r.ok ∧ l.size + r.size ≤ 63 ∧ Q tNames [.v (.str c), encT l, encT r, .v (.str (B.node c l r).line), .v (.int (B.node c l r).size), .v (.int (B.node c l r).depth), .tup ((B.node c l r).routes.map fun x => .v (.str x))]
theorem low_list : low.cps.toList = (List.range 26).map fun k => 97 + k := by decide +kernel
def tintB (x : Str) : Bool := match x.cps.toList with
  | [c] => decide (97 ≤ c ∧ c < 123)
  | _ => false
theorem low_mem (c : Nat) : decide (c ∈ low.cps.toList) = decide (97 ≤ c ∧ c < 123) := by
  rw [low_list]
  simp only [decide_eq_decide, List.mem_map, List.mem_range]
  exact ⟨fun ⟨k, h1, h2⟩ => by omega, fun ⟨h1, h2⟩ => ⟨c - 97, by omega, by omega⟩⟩
def notStr : D → Bool
  | .v .non => true
  | .v (.int _) => true
  | .v (.bl _) => true
  | .lst _ => true
  | .tup _ => true
  | .dic _ _ => true
  | _ => false
def cTint : Con := fun ds Q _ => (∃ x : Str, ds = [.v (.str x)] ∧ x.length ≤ sizeLine ∧ Q (.v (.bl (tintB x)))) ∨ ∃ d, ds = [d] ∧ notStr d = true ∧ Q (.v (.bl false))
theorem p_is_tint (ds : List D) (Q : D → Prop) (R : XD → Prop) (h : cTint ds Q R) : t_is_tint (conE Q R) (entry 1 ds) := by
  rcases h with ⟨x, rfl, hx, hq⟩ | ⟨d, rfl, hd, hq⟩
  · simp [t_is_tint, tab_str, hx]
    by_cases h1 : x.length = 1
    · obtain ⟨⟨l⟩⟩ := x
      obtain ⟨c, rfl⟩ : ∃ c, l = [c] := by
        cases l with
        | nil => cases h1
        | cons c r => cases r with
          | nil => exact ⟨c, rfl⟩
          | cons _ _ => simp [Str.length] at h1
      have e : inb (.v (.str ⟨⟨[c]⟩⟩)) (.v (.str (Str.ofString "abcdefghijklmnopqrstuvwxyz"))) = some (tintB ⟨⟨[c]⟩⟩) := by
        show some (!(Builtin.Str.occurrences low ⟨#[c]⟩ 0 low.length 1).isEmpty) = _
        rw [StrLaws.found_one, low_mem]; rfl
      have h1' : ((Str.mk ⟨[c]⟩).length : Int) = 1 := rfl
      simp [e, h1]
      exact hq
    · have e : tintB x = false := by
        obtain ⟨⟨l⟩⟩ := x
        cases l with
        | nil => rfl
        | cons c r => cases r with
          | nil => exact absurd rfl h1
          | cons _ _ => rfl
      rw [e] at hq
      have h2 : ¬ ((x.length : Int) = 1) := by omega
      simp [h2]
      exact hq
  · cases d <;> simp [notStr] at hd <;> try (simpa [t_is_tint, tab_str] using hq)
    rename_i v
    cases v <;> simp [notStr] at hd <;> (simpa [t_is_tint, tab_str] using hq)
theorem tintB_let {c : Str} (h : let1 c) : tintB c = true := by
  obtain ⟨k, hk, rfl⟩ := h
  show decide (97 ≤ 97 + k ∧ 97 + k < 123) = true
  simp; omega
end K05

namespace K05
open PySem L2 DL
theorem seq_i {t u : DST} {De : DEnds} {Γ : DS} (h : t { nx := u De, rt := De.rt, ex := De.ex, bk := De.bk, ct := De.ct } Γ) : dSeq t u De Γ := h
theorem tab_T (b : B) : tab_Tree (encT b) = some (!b.isNil) := by cases b <;> simp [tab_Tree, encT]
theorem init_loop {De : DEnds} {a b c s4 s5 s0 : Sl} {m : Mm} (l r : B) (h : De.nx ⟨[s0, a, b, c, .d (encT r), s5], m⟩) :
    dForL (dName 4) (dIfS (dAnd (dTest (dNotN (dVar 4))) (dNot (dTru (dIsT tab_Tree (dVar 4))))) (dRaise 7 ["given"] (dCons (dVar 4) dNil)) dNext) De [encT l, encT r] ⟨[s0, a, b, c, s4, s5], m⟩ := by
  cases h1 : l.isNil <;> cases h2 : r.isNil <;> simpa [tab_T, h1, h2] using h
abbrev kText : Con := cT0 fun b => .v (.str b.line)
abbrev kSize : Con := cT0 fun b => .v (.int b.size)
abbrev kLev : Con := cT0 fun b => .v (.int b.depth)
theorem line_e {c : Str} {l r : B} {x : XC} {s0 s4 : Sl} {m : Mm} (hc : let1 c) (hl : l.ok) (hr : r.ok) (hs : l.size + r.size ≤ 63) (Qe : D → DS → Prop)
    (h : Qe (.v (.str (B.node c l r).line)) ⟨[s0, .d (.v (.str c)), .d (encT l), .d (encT r), s4, .d (.v (.bl (l.isNil && r.isNil)))], m⟩) :
    (dIf (dTru (dVar 5)) (dVar 1) (dJoined [(dFmt (dVar 1)), (dC (.str "(")), (dFmt (dCall (liftC kText) 1 0 [.p 0] (dCons (dVar 2) dNil) dNil)), (dC (.str ",")), (dFmt (dCall (liftC kText) 1 0 [.p 0] (dCons (dVar 3) dNil) dNil)), (dC (.str ")"))])) x
      ⟨[s0, .d (.v (.str c)), .d (encT l), .d (encT r), s4, .d (.v (.bl (l.isNil && r.isNil)))], m⟩ Qe := by
  have ll := line_len hl
  have lr := line_len hr
  have lc := hc.len
  have main : (l.isNil && r.isNil) = false → (B.node c l r).line = c ++ "(" ++ l.line ++ "," ++ r.line ++ ")" := fun h => line_eq fun z => by rw [z.1, z.2] at h; cases h
  have le : Str.empty.length = 0 := rfl
  cases h1 : l.isNil <;> cases h2 : r.isNil <;> simp [h1, h2] at h main ⊢
  case true.true =>
    have e := isNil_eq h1; subst e
    have e := isNil_eq h2; subst e
    exact h
  all_goals rw [main] at h
  all_goals refine ⟨by rw [szl]; omega, by rw [szl, le]; omega, by rw [szl, le]; omega, ?_⟩
  all_goals refine ⟨l, rfl, hl, by omega, ?_⟩
  all_goals simp
  all_goals simp [Str.empty_append]
  all_goals refine ⟨by rw [szl]; omega, by rw [szl, le]; omega, by rw [szl, le]; omega, r, rfl, hr, by omega, ?_⟩
  all_goals simp
  all_goals exact ⟨by rw [szl]; omega, by rw [szl, le]; omega, by rw [szl, le]; omega, h⟩
theorem p_init (y dx : Addr) (ds : List D) (Q : List Str → List D → Prop) (R : XD → Prop) (h : cInit ds Q R) :
    t_Tree_init (liftC cTint) (liftC kText) (liftC kSize) (liftC kLev) (liftC cRoutes) (conI y dx 0 Q R) (entryI 6 y dx 0 ds) := by
  obtain ⟨c, l, r, rfl, hc, hl, hr, hs, hq⟩ := h
  have lc := hc.len
  have rl := routes_len l
  have rr := routes_len r
  have ed : ∀ m : Int, m ∈ [(l.depth : Int), (r.depth : Int)] → (∀ z, z ∈ [(l.depth : Int), (r.depth : Int)] → z ≤ m) → (1 : Int) + m = ((B.node c l r).depth : Int) := fun m h1 h2 => by
    have h3 := h2 _ (List.mem_cons_self ..)
    have h4 := h2 _ (List.mem_cons_of_mem _ (List.mem_cons_self ..))
    simp only [B.depth]
    rcases List.mem_cons.mp h1 with rfl | h1
    · omega
    · rcases List.mem_cons.mp h1 with rfl | h1
      · omega
      · cases h1
  have es : (1 : Int) + l.size + r.size = ((B.node c l r).size : Int) := by simp only [B.size]; omega
  have fin : ∀ (m : Mm), m y = some (.ins 0 dx ["letter", "first", "second", "line", "nodes", "depth"] [.v (.str c), encT l, encT r, .v (.str (B.node c l r).line), .v (.int (B.node c l r).size), .v (.int (B.node c l r).depth)]) →
      (dFst "routes" (dVar 0) (dOp dAdd (dOp dAdd (dTup (dCons (dC (.str "")) dNil)) (dCall (liftC cRoutes) 2 0 [.p 0, .p 1] (dCons (dC (.str "L")) (dCons (dVar 2) dNil)) dNil)) (dCall (liftC cRoutes) 2 0 [.p 0, .p 1] (dCons (dC (.str "R")) (dCons (dVar 3) dNil)) dNil))) (conI y dx 0 Q R)
        ⟨[.d (.v (.ref y)), .d (.v (.str c)), .d (encT l), .d (encT r), .d (encT r), .d (.v (.bl (l.isNil && r.isNil)))], m⟩ := fun m em => by
    simp
    refine ⟨by rw [szl]; decide, _, l, rfl, hl, by omega, by rw [l1_len]; decide, ?_⟩
    simp
    refine ⟨by rw [szl]; omega, _, r, rfl, hr, by omega, by rw [r1_len]; decide, ?_⟩
    simp [em]
    refine ⟨by rw [szl]; omega, ?_⟩
    have e : (B.node c l r).routes.map (fun x => D.v (.str x)) = D.v (.str "") :: (l.routes.map (fun x => D.v (.str ("L" ++ x))) ++ r.routes.map (fun x => D.v (.str ("R" ++ x)))) := by simp [B.routes, Function.comp_def]
    rw [e] at hq
    exact ⟨_, _, ⟨rfl, rfl⟩, hq⟩
  unfold t_Tree_init
  generalize (dFst "routes" (dVar 0) (dOp dAdd (dOp dAdd (dTup (dCons (dC (.str "")) dNil)) (dCall (liftC cRoutes) 2 0 [.p 0, .p 1] (dCons (dC (.str "L")) (dCons (dVar 2) dNil)) dNil)) (dCall (liftC cRoutes) 2 0 [.p 0, .p 1] (dCons (dC (.str "R")) (dCons (dVar 3) dNil)) dNil))) = w at fin ⊢
  refine seq_i ?_
  simp [-dSeq]
  refine .inl ⟨c, rfl, by rw [szl]; omega, ?_⟩
  rw [tintB_let hc]
  simp [-dSeq]
  refine seq_i ?_
  refine ⟨by show 2 ≤ sizeLine; rw [szl]; decide, ?_⟩
  refine init_loop l r ?_
  refine seq_i ?_
  simp [-dSeq]
  refine seq_i ?_
  simp [-dSeq]
  refine seq_i ?_
  simp [-dSeq]
  refine seq_i ?_
  simp [-dSeq]
  refine seq_i ?_
  have bo : ∀ (Qe : D → DS → Prop) (x : XC) (s0 s1 s4 s5 : Sl) (m : Mm), Qe (.v (.bl (l.isNil && r.isNil))) ⟨[s0, s1, .d (encT l), .d (encT r), s4, s5], m⟩ → (dAndV (dIsN (dVar 2)) (dIsN (dVar 3))) x ⟨[s0, s1, .d (encT l), .d (encT r), s4, s5], m⟩ Qe := fun Qe x s0 s1 s4 s5 m h => by
    cases h1 : l.isNil <;> cases h2 : r.isNil <;> simpa [h1, h2] using h
  refine bo _ _ _ _ _ _ _ ?_
  refine seq_i ?_
  refine line_e hc hl hr hs _ ?_
  simp [-dSeq]
  refine seq_i ?_
  simp [-dSeq]
  refine ⟨l, rfl, hl, by omega, ?_⟩
  simp [-dSeq]
  refine ⟨r, rfl, hr, by omega, ?_⟩
  simp [-dSeq]
  rw [es]
  refine seq_i ?_
  simp [-dSeq]
  refine ⟨l, rfl, hl, by omega, ?_⟩
  refine ⟨r, rfl, hr, by omega, ?_⟩
  simp [-dSeq, intsD]
  refine ⟨by rw [szl]; decide, fun h => ?_, fun h => ?_⟩
  · have e : (1 : Int) + l.depth = ((B.node c l r).depth : Int) := by simp only [B.depth]; omega
    rw [e]
    refine fin _ ?_
    simp
  · have e : (1 : Int) + r.depth = ((B.node c l r).depth : Int) := by simp only [B.depth]; omega
    rw [e]
    refine fin _ ?_
    simp
def badTint (d : D) : Prop := (∃ x, d = .v (.str x) ∧ x.length ≤ sizeLine ∧ tintB x = false) ∨ notStr d = true
def badSide (d : D) : Prop := isN d = false ∧ tab_Tree d = some false
abbrev xTint (d : D) : XD := ⟨0, ["given"], [d]⟩
abbrev xTree (d : D) : XD := ⟨7, ["given"], [d]⟩
def cInitX : ConI := fun ds Q R => ∃ t l r, ds = [t, l, r] ∧ ((badTint t ∧ R (xTint t)) ∨ (∃ c, t = .v (.str c) ∧ let1 c ∧ ((badSide l ∧ R (xTree l)) ∨ (∃ b : B, l = encT b ∧ badSide r ∧ R (xTree r)))) ∨ cInit [t, l, r] Q R)
theorem p_initX (y dx : Addr) (ds : List D) (Q : List Str → List D → Prop) (R : XD → Prop) (h : cInitX ds Q R) :
    t_Tree_init (liftC cTint) (liftC kText) (liftC kSize) (liftC kLev) (liftC cRoutes) (conI y dx 0 Q R) (entryI 6 y dx 0 ds) := by
  obtain ⟨t, l, r, rfl, h⟩ := h
  rcases h with ⟨hb, h⟩ | ⟨c, rfl, hc, h⟩ | h
  · unfold t_Tree_init
    refine seq_i ?_
    simp [-dSeq]
    rcases hb with ⟨x, rfl, hx, ht⟩ | hb
    · refine .inl ⟨x, rfl, hx, ?_⟩
      rw [ht]
      simp
      exact h
    · refine .inr ⟨t, rfl, hb, ?_⟩
      simp
      exact h
  · have lc := hc.len
    unfold t_Tree_init
    refine seq_i ?_
    simp [-dSeq]
    refine .inl ⟨c, rfl, by rw [szl]; omega, ?_⟩
    rw [tintB_let hc]
    simp [-dSeq]
    refine seq_i ?_
    refine ⟨by show 2 ≤ sizeLine; rw [szl]; decide, ?_⟩
    rcases h with ⟨⟨h1, h2⟩, h⟩ | ⟨b, rfl, ⟨h1, h2⟩, h⟩
    · simp [h1, h2, -dSeq]
      exact h
    · cases hn : b.isNil <;> simp [h1, h2, tab_T, hn, -dSeq] <;> exact h
  · exact p_init y dx _ Q R h
end K05

set_option maxHeartbeats 400000
namespace K05
open PySem L2 DL
theorem rc_small : ∀ q ∈ [34, 39], ∀ c ∈ List.range 128, ∀ d ∈ Builtin.Str.reprChar q c, d < 128 := by decide +kernel
theorem rq_two (x : Str) : PySem.reprQuote x ∈ [34, 39] := by
  unfold PySem.reprQuote
  split <;> simp
theorem fold_small {q : Nat} (hq : q ∈ [34, 39]) : ∀ (l : List Nat) (acc : Array Nat), (∀ c ∈ l, c < 128) → (∀ d ∈ acc.toList, d < 128) → ∀ d ∈ (l.foldl (fun out c => out ++ (Builtin.Str.reprChar q c).toArray) acc).toList, d < 128
  | [], acc, _, h => h
  | c :: r, acc, hl, h => fold_small hq r _ (fun d hd => hl d (List.mem_cons_of_mem _ hd)) fun d hd => by
    rw [Array.toList_append] at hd
    rcases List.mem_append.mp hd with z | z
    · exact h d z
    · exact rc_small q hq c (List.mem_range.mpr (hl c (List.mem_cons_self ..))) d (by simpa using z)
theorem repr_sml {x : Str} (h : sml x) : sml (PySem.reprText x) := by
  intro d hd
  have e : (PySem.reprText x).cps = (x.cps.foldl (fun out c => out ++ (Builtin.Str.reprChar (PySem.reprQuote x) c).toArray) #[PySem.reprQuote x]).push (PySem.reprQuote x) := rfl
  have q2 : PySem.reprQuote x < 128 := by
    have := rq_two x
    simp at this; omega
  rw [e, Array.toList_push, ← Array.foldl_toList] at hd
  rcases List.mem_append.mp hd with z | z
  · exact fold_small (rq_two x) x.cps.toList _ h (fun d hd => by
      have : d = PySem.reprQuote x := by simpa using hd
      rw [this]; exact q2) d z
  · rw [List.mem_singleton.mp z]; exact q2
structure Val (d : D) (s r : Str) : Prop where
  st : ∀ Q : D → Prop, Q (.v (.str s)) → dStrX [d] Q
  rp : ∀ Q : D → Prop, Q (.v (.str r)) → dRepr [d] Q
  sm : sml r
  ln : s.length ≤ 100
  cl : ∀ m, clsOf m d = none
abbrev odds : List D := [.v (.str ""), .v (.str "A"), .v (.str "ab"), .v (.str "1"), .v (.str " "), .v (.str "-"), .v (.bl true), .v (.int 0), .tup [.v (.str "a")], .lst [.v (.str "a")], .dic [] [], .v (.str "a(b,-)"), .tup [], .v (.int 7)]
theorem val_str {x : Str} (hs : sml x) (hl : x.length ≤ 100) : Val (.v (.str x)) x (PySem.reprText x) := by
  have hr := PySem.StrLaws.reprText_len x fun c hc => Nat.lt_trans (hs c hc) (by decide)
  exact ⟨fun Q q => q, fun Q q => ⟨by rw [szl]; omega, q⟩, repr_sml hs, hl, fun m => rfl⟩
theorem odd_str (x : Str) (hs : (x.cps.toList.all fun c => decide (c < 128)) = true) (hl : x.length ≤ 100) (ht : tintB x = false) : (∃ s r, Val (.v (.str x)) s r) ∧ badTint (.v (.str x)) ∧ badSide (.v (.str x)) :=
  ⟨⟨_, _, val_str (sml_lit hs) hl⟩, .inl ⟨x, rfl, by rw [szl]; omega, ht⟩, by simp, rfl⟩
theorem odd_all : ∀ d ∈ odds, (∃ s r, Val d s r) ∧ badTint d ∧ badSide d := by
  intro d hd
  simp only [odds, List.mem_cons, List.mem_nil_iff, or_false] at hd
  rcases hd with rfl | rfl | rfl | rfl | rfl | rfl | rfl | rfl | rfl | rfl | rfl | rfl | rfl | rfl
  · exact odd_str _ (by decide +kernel) (by decide +kernel) (by decide +kernel)
  · exact odd_str _ (by decide +kernel) (by decide +kernel) (by decide +kernel)
  · exact odd_str _ (by decide +kernel) (by decide +kernel) (by decide +kernel)
  · exact odd_str _ (by decide +kernel) (by decide +kernel) (by decide +kernel)
  · exact odd_str _ (by decide +kernel) (by decide +kernel) (by decide +kernel)
  · exact odd_str _ (by decide +kernel) (by decide +kernel) (by decide +kernel)
  · exact ⟨⟨_, _, fun Q q => q, fun Q q => q, sml_lit (s := Str.ofString "True") (by decide +kernel), (by decide +kernel : (Str.ofString "True").length ≤ 100), fun m => rfl⟩, .inr rfl, rfl, rfl⟩
  · exact ⟨⟨_, _, fun Q q => ⟨by decide, q⟩, fun Q q => ⟨by decide, q⟩, sml_lit (s := Str.ofString "0") (by decide +kernel), (by decide +kernel : (Str.ofString "0").length ≤ 100), fun m => rfl⟩, .inr rfl, rfl, rfl⟩
  · exact ⟨⟨(PyData.tuple [.str (Str.ofString "a")]).shown, (PyData.tuple [.str (Str.ofString "a")]).shown, fun Q q => ⟨⟨by decide +kernel, by rw [szl]; decide +kernel, by decide +kernel⟩, q⟩, fun Q q => ⟨⟨by decide +kernel, by rw [szl]; decide +kernel, by decide +kernel⟩, q⟩, sml_lit (by decide +kernel), by decide +kernel, fun m => rfl⟩, .inr rfl, rfl, rfl⟩
  · exact ⟨⟨(PyData.list [.str (Str.ofString "a")]).shown, (PyData.list [.str (Str.ofString "a")]).shown, fun Q q => ⟨⟨by decide +kernel, by rw [szl]; decide +kernel, by decide +kernel⟩, q⟩, fun Q q => ⟨⟨by decide +kernel, by rw [szl]; decide +kernel, by decide +kernel⟩, q⟩, sml_lit (by decide +kernel), by decide +kernel, fun m => rfl⟩, .inr rfl, rfl, rfl⟩
  · exact ⟨⟨(PyData.dict []).shown, (PyData.dict []).shown, fun Q q => q, fun Q q => q, sml_lit (by decide +kernel), by decide +kernel, fun m => rfl⟩, .inr rfl, rfl, rfl⟩
  · exact odd_str _ (by decide +kernel) (by decide +kernel) (by decide +kernel)
  · exact ⟨⟨(PyData.tuple []).shown, (PyData.tuple []).shown, fun Q q => ⟨⟨by decide +kernel, by rw [szl]; decide +kernel, by decide +kernel⟩, q⟩, fun Q q => ⟨⟨by decide +kernel, by rw [szl]; decide +kernel, by decide +kernel⟩, q⟩, sml_lit (by decide +kernel), by decide +kernel, fun m => rfl⟩, .inr rfl, rfl, rfl⟩
  · exact ⟨⟨_, _, fun Q q => ⟨by decide, q⟩, fun Q q => ⟨by decide, q⟩, sml_lit (s := Str.ofString "7") (by decide +kernel), (by decide +kernel : (Str.ofString "7").length ≤ 100), fun m => rfl⟩, .inr rfl, rfl, rfl⟩
def cThing : Con := fun ds Q _ => ∃ xs : List D, ds = [.stk, .lst xs] ∧ 0 < xs.length ∧ xs.length < 1000 ∧ (∀ x ∈ xs, Q (.tup [x, .v (.bl true)])) ∧ ∀ x ∈ odds, Q (.tup [x, .v (.bl false)])
theorem p_thing (ds : List D) (Q : D → Prop) (R : XD → Prop) (h : cThing ds Q R) : t__law_thing (liftC cPull) (liftC cPick) (conE Q R) (entry 3 ds) := by
  obtain ⟨xs, rfl, h0, h1, hq, ho⟩ := h
  have hz : 2 ≤ sizeLine := by rw [szl]; decide
  have hz1 : 1 ≤ sizeLine := by rw [szl]; decide
  have hz14 : 14 ≤ sizeLine := by rw [szl]; decide
  unfold t__law_thing
  refine seq_i ?_
  simp [-dSeq, hz1, hz14]
  refine seq_i ?_
  simp [-dSeq]
  refine ⟨3, rfl, by decide, by decide, fun r r0 r3 => ?_⟩
  by_cases hr : 0 < r
  · simp [hr]
    exact ⟨_, xs, rfl, .inl rfl, h0, by omega, fun x hx => by simpa [hz] using hq x hx⟩
  · simp [hr]
    exact ⟨_, odds, rfl, .inl rfl, by decide, by decide, fun x hx => by simpa [hz] using ho x hx⟩
def Sh (d : D) (ok : Bool) (s r : Str) : Prop := Val d s r ∧ if ok = true then d = .v (.str s) ∧ let1 s else badTint d
def Si (d : D) (ok : Bool) (s r : Str) : Prop := (if ok = true then ∃ b : B, d = encT b ∧ b.ok ∧ b.size ≤ 2 ∧ s = b.line else Val d s r ∧ badSide d) ∧ s.length ≤ 100
abbrev kStr : Con := cT fun b => .v (.str b.line)
def cSide : Con := fun ds Q _ => ∃ d ok s r, ds = [d] ∧ Si d ok s r ∧ Q (.v (.str s))
theorem p_side (ds : List D) (Q : D → Prop) (R : XD → Prop) (h : cSide ds Q R) : t__law_side (liftC kStr) (conE Q R) (entry 1 ds) := by
  obtain ⟨d, ok, s, r, rfl, ⟨h, hl⟩, hq⟩ := h
  unfold t__law_side
  cases ok
  · rw [if_neg Bool.false_ne_true] at h
    obtain ⟨v, b1, b2⟩ := h
    simp [b1, v.cl, -dStrX]
    exact v.st _ hq
  · rw [if_pos rfl] at h
    obtain ⟨b, rfl, hb, hn, rfl⟩ := h
    cases b with
    | nil => simpa [B.line, encT] using hq
    | node c l r =>
      simp [encT]
      exact ⟨.node c l r, rfl, hb, by omega, rfl, ⟨_, rfl⟩, hq⟩
def dueD (b1 b2 b3 : Bool) (rs rl rh tx : Str) : D := if b1 = false then .tup [.v (.str "InvalidTint"), .v (.str rs)] else if b2 = false then .tup [.v (.str "NotATree"), .v (.str rl)] else if b3 = false then .tup [.v (.str "NotATree"), .v (.str rh)] else .tup [.v (.str "told"), .v (.str tx)]
def cCaught : ConA := fun act m Q R => ∀ f, t__law_caught f act (conM Q R) (entryM 3 [.v (.ref f)] m)
theorem ix_given : idx (Str.ofString "given") [Str.ofString "given"] = some 0 := by decide +kernel
end K05

set_option maxHeartbeats 1000000
namespace K05
open PySem L2 DL
abbrev mkP : DE := dMake true 0 (initC 0 cInitX) 3 0 [.p 0, .p 1, .p 2] (dCons (dOp dIxR (dVar 5) (dC (.int 0))) (dCons (dOp dIxR (dVar 6) (dC (.int 0))) (dCons (dOp dIxR (dVar 7) (dC (.int 0))) dNil))) dNil
abbrev mkK : DE := dMake true 0 (initC 0 cInitX) 0 3 [.k 1, .k 2, .k 0] dNil (dCons (dOp dIxR (dVar 7) (dC (.int 0))) (dCons (dOp dIxR (dVar 5) (dC (.int 0))) (dCons (dOp dIxR (dVar 6) (dC (.int 0))) dNil)))
def Due (b1 b2 b3 : Bool) (lo hi : D) (ss rs rl rh tx : Str) : Prop := b1 = true → b2 = true → b3 = true → ∃ l r : B, lo = encT l ∧ hi = encT r ∧ l.ok ∧ r.ok ∧ l.size ≤ 2 ∧ r.size ≤ 2 ∧ tx = (B.node ss l r).line
theorem made {x : XC} {b1 b2 b3 : Bool} {sh lo hi : D} {ss rs sl rl sr rh tx : Str} {s0 s1 s2 s3 s4 s8 s9 : Sl} {m : Mm} {kw : Bool} {Qe : D → DS → Prop} (h1 : Sh sh b1 ss rs) (h2 : Si lo b2 sl rl) (h3 : Si hi b3 sr rh) (hd : Due b1 b2 b3 lo hi ss rs rl rh tx)
    (k1 : b1 = false → x (xTint sh) ⟨[s0, s1, s2, s3, s4, .d (.tup [sh, .v (.bl b1)]), .d (.tup [lo, .v (.bl b2)]), .d (.tup [hi, .v (.bl b3)]), s8, s9], m⟩)
    (k2 : b1 = true → b2 = false → x (xTree lo) ⟨[s0, s1, s2, s3, s4, .d (.tup [sh, .v (.bl b1)]), .d (.tup [lo, .v (.bl b2)]), .d (.tup [hi, .v (.bl b3)]), s8, s9], m⟩)
    (k3 : b1 = true → b2 = true → b3 = false → x (xTree hi) ⟨[s0, s1, s2, s3, s4, .d (.tup [sh, .v (.bl b1)]), .d (.tup [lo, .v (.bl b2)]), .d (.tup [hi, .v (.bl b3)]), s8, s9], m⟩)
    (k4 : b1 = true → b2 = true → b3 = true → ∀ b : B, b.ok → b.isNil = false → b.size ≤ 5 → tx = b.line → ∀ m', Le m' m → Qe (encT b) ⟨[s0, s1, s2, s3, s4, .d (.tup [sh, .v (.bl b1)]), .d (.tup [lo, .v (.bl b2)]), .d (.tup [hi, .v (.bl b3)]), s8, s9], m⟩) :
    (if kw = true then mkK else mkP) x ⟨[s0, s1, s2, s3, s4, .d (.tup [sh, .v (.bl b1)]), .d (.tup [lo, .v (.bl b2)]), .d (.tup [hi, .v (.bl b3)]), s8, s9], m⟩ Qe := by
  have dup : ∀ (y a : Addr) (p q r : Option Ob), (if a = y then p else if a = y then q else r) = if a = y then p else r := fun y a p q r => by split <;> rfl
  have del : ∀ (y : Addr), m y = none → (fun a => if a = y then none else m a) = m := fun y hy => by
    funext a
    by_cases h : a = y
    · subst h; simp [hy]
    · simp [h]
  have go : ∀ (y dx : Addr), m y = none → cInitX [sh, lo, hi] (fun ns ws => D.v V.non = D.v V.non ∧ ∃ ns' ws', (fun a => if a = y then some (Ob.ins 0 dx ns ws) else if a = y then some (.ins 0 dx [] []) else m a) y = some (.ins 0 dx ns' ws') ∧ Qe (.obj 0 ns' ws') ⟨[s0, s1, s2, s3, s4, .d (.tup [sh, .v (.bl b1)]), .d (.tup [lo, .v (.bl b2)]), .d (.tup [hi, .v (.bl b3)]), s8, s9], m⟩) (fun e => x e ⟨[s0, s1, s2, s3, s4, .d (.tup [sh, .v (.bl b1)]), .d (.tup [lo, .v (.bl b2)]), .d (.tup [hi, .v (.bl b3)]), s8, s9], m⟩) := fun y dx hy => by
    refine ⟨sh, lo, hi, rfl, ?_⟩
    obtain ⟨v1, h1⟩ := h1
    obtain ⟨h2, l2⟩ := h2
    obtain ⟨h3, l3⟩ := h3
    cases b1
    · exact .inl ⟨by simpa using h1, k1 rfl⟩
    · rw [if_pos rfl] at h1
      obtain ⟨rfl, hc⟩ := h1
      cases b2
      · exact .inr (.inl ⟨_, rfl, hc, .inl ⟨(by simpa using h2 : _ ∧ _).2, k2 rfl rfl⟩⟩)
      · cases b3
        · rw [if_pos rfl] at h2
          obtain ⟨b, rfl, _⟩ := h2
          exact .inr (.inl ⟨_, rfl, hc, .inr ⟨b, rfl, (by simpa using h3 : _ ∧ _).2, k3 rfl rfl rfl⟩⟩)
        · obtain ⟨l, r, rfl, rfl, g1, g2, g3, g4, g5⟩ := hd rfl rfl rfl
          refine .inr (.inr ⟨ss, l, r, rfl, hc, g1, g2, by omega, rfl, _, _, if_pos rfl, ?_⟩)
          exact k4 rfl rfl rfl (.node ss l r) ⟨hc, g1, g2⟩ rfl (by simp only [B.size]; omega) g5 m (.refl m)
  cases kw
  · simp
    intro y dx hy
    refine ⟨y, dx, _, ⟨rfl, rfl⟩, if_pos rfl, ?_⟩
    have := go y dx hy
    simpa [dup, del y hy] using this
  · simp
    intro y dx hy
    refine ⟨y, dx, _, ⟨rfl, rfl⟩, if_pos rfl, ?_⟩
    have := go y dx hy
    simpa [dup, del y hy] using this
end K05

set_option maxHeartbeats 1000000
set_option pp.maxSteps 400
namespace K05
open PySem L2 DL
theorem caught_mk {x : XC} {b1 b2 b3 : Bool} {sh lo hi : D} {ss rs sl rl sr rh tx : Str} {s0 s1 s2 s3 s4 s8 s9 : Sl} {m : Mm} (kw : Bool) {Qe : D → DS → Prop} (h1 : Sh sh b1 ss rs) (h2 : Si lo b2 sl rl) (h3 : Si hi b3 sr rh) (hd : Due b1 b2 b3 lo hi ss rs rl rh tx)
    (h : Qe (dueD b1 b2 b3 rs rl rh tx) ⟨[s0, s1, s2, s3, s4, .d (.tup [sh, .v (.bl b1)]), .d (.tup [lo, .v (.bl b2)]), .d (.tup [hi, .v (.bl b3)]), s8, s9], m⟩) :
    dLam cCaught (dOwnS [0] (liftC kStr) (dCons (if kw = true then mkK else mkP) dNil)) x ⟨[s0, s1, s2, s3, s4, .d (.tup [sh, .v (.bl b1)]), .d (.tup [lo, .v (.bl b2)]), .d (.tup [hi, .v (.bl b3)]), s8, s9], m⟩ Qe := by
  have hz : 2 ≤ sizeLine := by rw [szl]; decide
  intro f
  unfold t__law_caught
  refine seq_i ?_
  simp only [dTryAll, dSet, dAct, actOf, dOwnS, dCons, dNil]
  refine ⟨rfl, ?_⟩
  refine made h1 h2 h3 hd ?_ ?_ ?_ ?_
  · intro e1
    subst e1
    simp [cat_InvalidTint, cat_NotATree, -dRepr, ix_given]
    refine h1.1.rp _ ⟨hz, m, .refl m, h⟩
  · intro e1 e2
    subst e1 e2
    obtain ⟨v2, _⟩ := h2
    rw [if_neg Bool.false_ne_true] at v2
    simp [cat_InvalidTint, cat_NotATree, -dRepr, ix_given]
    refine v2.1.rp _ ⟨hz, m, .refl m, h⟩
  · intro e1 e2 e3
    subst e1 e2 e3
    obtain ⟨v3, _⟩ := h3
    rw [if_neg Bool.false_ne_true] at v3
    simp [cat_InvalidTint, cat_NotATree, -dRepr, ix_given]
    refine v3.1.rp _ ⟨hz, m, .refl m, h⟩
  · intro e1 e2 e3 b hb hn h5 et m' lm
    subst e1 e2 e3
    cases b with
    | nil => simp at hn
    | node c l r =>
      simp [encT]
      refine ⟨.node c l r, rfl, hb, by omega, rfl, ⟨_, rfl⟩, hz, m, .refl m, ?_⟩
      subst et; exact h
theorem caught_one {x : XC} {d : D} {s r : Str} {s0 s1 s2 s3 s5 s6 s7 s8 s9 : Sl} {m : Mm} {Qe : D → DS → Prop} (hv : Val d s r) (hb : badTint d) (h : Qe (.tup [.v (.str "InvalidTint"), .v (.str r)]) ⟨[s0, s1, s2, s3, .d d, s5, s6, s7, s8, s9], m⟩) :
    dLam cCaught (dMake true 0 (initC 0 cInitX) 1 0 [.p 0, .n, .n] (dCons (dVar 4) dNil) dNil) x ⟨[s0, s1, s2, s3, .d d, s5, s6, s7, s8, s9], m⟩ Qe := by
  have hz : 2 ≤ sizeLine := by rw [szl]; decide
  have dup : ∀ (y a : Addr) (p q r : Option Ob), (if a = y then p else if a = y then q else r) = if a = y then p else r := fun y a p q r => by split <;> rfl
  have del : ∀ (y : Addr), m y = none → (fun a => if a = y then none else m a) = m := fun y hy => by
    funext a
    by_cases h : a = y
    · subst h; simp [hy]
    · simp [h]
  intro f
  unfold t__law_caught
  refine seq_i ?_
  simp [-dRepr]
  intro y dx hy
  refine ⟨y, dx, _, ⟨rfl, rfl⟩, if_pos rfl, d, _, _, rfl, .inl ⟨hb, ?_⟩⟩
  simp [cat_InvalidTint, cat_NotATree, -dRepr, ix_given, dup, del y hy]
  exact hv.rp _ ⟨hz, m, .refl m, h⟩
end K05

set_option maxHeartbeats 1000000
set_option pp.maxSteps 600
namespace K05
open PySem L2 DL
def MkT (te : DE) (b : B) : Prop := ∀ (x : XC) (Γ : DS) (Q : D → DS → Prop), Q (encT b) Γ → te x Γ Q
theorem mk_any {c : Str} {l r : B} (hc : let1 c) (hl : l.ok) (hr : r.ok) (hs : l.size + r.size ≤ 63) {m : Mm} {s : List Sl} {Q : D → DS → Prop} (R : XD → Mm → Prop) (h : Q (encT (.node c l r)) ⟨s, m⟩) (y dx : Addr) (hy : m y = none) :
    (initC 0 cInitX) [.v (.ref y), .v (.str c), encT l, encT r] (fun a => if a = y then some (.ins 0 dx [] []) else m a)
      (fun d m' => d = .v .non ∧ if true = true then ∃ ns ws, m' y = some (.ins 0 dx ns ws) ∧ Q (.obj 0 ns ws) ⟨s, fun a => if a = y then none else m' a⟩ else Q (.v (.ref y)) ⟨s, m'⟩) R := by
  have dup : ∀ (y a : Addr) (p q r : Option Ob), (if a = y then p else if a = y then q else r) = if a = y then p else r := fun y a p q r => by split <;> rfl
  have del : ∀ (y : Addr), m y = none → (fun a => if a = y then none else m a) = m := fun y hy => by
    funext a
    by_cases h : a = y
    · subst h; simp [hy]
    · simp [h]
  refine ⟨y, dx, _, rfl, if_pos rfl, _, _, _, rfl, .inr (.inr ⟨c, l, r, rfl, hc, hl, hr, hs, ?_⟩)⟩
  simp [dup, del y hy]
  exact ⟨_, _, ⟨rfl, rfl⟩, h⟩
theorem mk1 {c : Str} (hc : let1 c) : MkT (dMake true 0 (initC 0 cInitX) 1 0 [.p 0, .n, .n] (dCons (dC (.str c)) dNil) dNil) (.node c .nil .nil) := fun x Γ Q h =>
  ⟨rfl, rfl, fun y dx hy => mk_any (l := .nil) (r := .nil) hc trivial trivial (by decide) _ h y dx hy⟩
theorem mk2 {c : Str} {te : DE} {b : B} (hc : let1 c) (ht : MkT te b) (hb : b.ok) (hs : b.size ≤ 5) : MkT (dMake true 0 (initC 0 cInitX) 2 0 [.p 0, .p 1, .n] (dCons (dC (.str c)) (dCons te dNil)) dNil) (.node c b .nil) := fun x Γ Q h => by
  refine ht _ _ _ ?_
  exact ⟨rfl, rfl, fun y dx hy => mk_any (l := b) (r := .nil) hc hb trivial (by simp only [B.size]; omega) _ h y dx hy⟩
theorem mk3 {c : Str} {te : DE} {b : B} (hc : let1 c) (ht : MkT te b) (hb : b.ok) (hs : b.size ≤ 5) : MkT (dMake true 0 (initC 0 cInitX) 3 0 [.p 0, .p 1, .p 2] (dCons (dC (.str c)) (dCons (dC .non) (dCons te dNil))) dNil) (.node c .nil b) := fun x Γ Q h => by
  refine ht _ _ _ ?_
  exact ⟨rfl, rfl, fun y dx hy => mk_any (l := .nil) (r := b) hc trivial hb (by simp only [B.size]; omega) _ h y dx hy⟩
theorem la : let1 (Str.ofString "a") := ⟨0, by decide, by decide +kernel⟩
theorem lz : let1 (Str.ofString "z") := ⟨25, by decide, by decide +kernel⟩
theorem lm : let1 (Str.ofString "m") := ⟨12, by decide, by decide +kernel⟩
theorem lb : let1 (Str.ofString "b") := ⟨1, by decide, by decide +kernel⟩
theorem lq : let1 (Str.ofString "q") := ⟨16, by decide, by decide +kernel⟩
theorem lk : let1 (Str.ofString "k") := ⟨10, by decide, by decide +kernel⟩
abbrev sides : List B := [.nil, .node "a" .nil .nil, .node "z" (.node "m" .nil .nil) .nil, .node "b" .nil (.node "b" .nil .nil)]
theorem sides_ok : ∀ b ∈ sides, b.ok ∧ b.size ≤ 2 := by
  intro b hb
  simp only [sides, List.mem_cons, List.mem_nil_iff, or_false] at hb
  rcases hb with rfl | rfl | rfl | rfl
  · exact ⟨trivial, by decide⟩
  · exact ⟨⟨la, trivial, trivial⟩, by decide⟩
  · exact ⟨⟨lz, ⟨lm, trivial, trivial⟩, trivial⟩, by decide⟩
  · exact ⟨⟨lb, trivial, ⟨lb, trivial, trivial⟩⟩, by decide⟩
theorem shade_ok : ∀ x ∈ [D.v (.str "a"), .v (.str "z"), .v (.str "q")], ∃ s r, Sh x true s r := by
  intro x hx
  have go : ∀ c : Str, let1 c → ∃ s r, Sh (.v (.str c)) true s r := fun c hc => ⟨c, _, val_str hc.sml (by rw [hc.len]; decide), by rw [if_pos rfl]; exact ⟨rfl, hc⟩⟩
  simp only [List.mem_cons, List.mem_nil_iff, or_false] at hx
  rcases hx with rfl | rfl | rfl
  · exact go _ la
  · exact go _ lz
  · exact go _ lq
theorem side_of {b : B} (h : b ∈ sides) : Si (encT b) true b.line "" := by
  obtain ⟨h1, h2⟩ := sides_ok b h
  have := line_len h1
  exact ⟨by rw [if_pos rfl]; exact ⟨b, rfl, h1, h2, rfl⟩, by omega⟩
theorem odd_shade {d : D} (h : d ∈ odds) : ∃ s r, Sh d false s r := by
  obtain ⟨⟨s, r, v⟩, h1, h2⟩ := odd_all d h
  exact ⟨s, r, v, by rw [if_neg Bool.false_ne_true]; exact h1⟩
theorem odd_side {d : D} (h : d ∈ odds) : ∃ s r, Si d false s r := by
  obtain ⟨⟨s, r, v⟩, h1, h2⟩ := odd_all d h
  exact ⟨s, r, by rw [if_neg Bool.false_ne_true]; exact ⟨v, h2⟩, v.ln⟩
end K05

set_option maxHeartbeats 1000000
set_option pp.maxSteps 600
namespace K05
open PySem L2 DL
abbrev txt4 : DE := (dTup (dCons (dC (.str "told")) (dCons (dOp dAdd (dOp dAdd (dOp dAdd (dOp dAdd (dOp dAdd (dCB dStrX (dCons (dOp dIxR (dVar 5) (dC (.int 0))) dNil)) (dC (.str "("))) (dCall (liftC cSide) 1 0 [.p 0] (dCons (dOp dIxR (dVar 6) (dC (.int 0))) dNil) dNil)) (dC (.str ","))) (dCall (liftC cSide) 1 0 [.p 0] (dCons (dOp dIxR (dVar 7) (dC (.int 0))) dNil) dNil)) (dC (.str ")"))) dNil)))
theorem st4 {De : DEnds} {b1 b2 b3 : Bool} {sh lo hi : D} {ss rs sl rl sr rh tx : Str} {s0 s1 s3 s4 s8 s9 : Sl} {m : Mm} (h1 : Sh sh b1 ss rs) (h2 : Si lo b2 sl rl) (h3 : Si hi b3 sr rh) (hd : Due b1 b2 b3 lo hi ss rs rl rh tx)
    (h : ∀ z, (b1 = true → b2 = true → b3 = true → z = .tup [.v (.str "told"), .v (.str tx)]) → De.nx ⟨[s0, s1, .d z, s3, s4, .d (.tup [sh, .v (.bl b1)]), .d (.tup [lo, .v (.bl b2)]), .d (.tup [hi, .v (.bl b3)]), s8, s9], m⟩) :
    (dIfS (dOr (dTest (dNotN (dOp dIxR (dVar 6) (dC (.int 0))))) (dTest (dNotN (dOp dIxR (dVar 7) (dC (.int 0)))))) (dSet 2 txt4) dNext) De ⟨[s0, s1, .d (.tup [.v (.str "told"), sh]), s3, s4, .d (.tup [sh, .v (.bl b1)]), .d (.tup [lo, .v (.bl b2)]), .d (.tup [hi, .v (.bl b3)]), s8, s9], m⟩ := by
  have hz : 2 ≤ sizeLine := by rw [szl]; decide
  have v1 := h1.1
  have n1 := v1.ln
  have n2 := h2.2
  have n3 := h3.2
  have main : ¬ (isN lo = true ∧ isN hi = true) → ∀ x : XC, txt4 x ⟨[s0, s1, .d (.tup [.v (.str "told"), sh]), s3, s4, .d (.tup [sh, .v (.bl b1)]), .d (.tup [lo, .v (.bl b2)]), .d (.tup [hi, .v (.bl b3)]), s8, s9], m⟩ (fun z Γ1 => De.nx (Γ1.set 2 (.d z))) := fun hn x => by
    simp [-dStrX]
    refine v1.st _ ?_
    simp
    refine ⟨by rw [szl]; omega, lo, b2, sl, rl, rfl, h2, ?_⟩
    simp
    refine ⟨by rw [szl]; omega, by rw [szl]; omega, hi, b3, sr, rh, rfl, h3, ?_⟩
    simp
    refine ⟨by rw [szl]; omega, by rw [szl]; omega, hz, h _ fun e1 e2 e3 => ?_⟩
    obtain ⟨l, r, rfl, rfl, g1, g2, g3, g4, rfl⟩ := hd e1 e2 e3
    subst e1 e2 e3
    obtain ⟨⟨b, eb, _, _, rfl⟩, _⟩ := h2
    obtain ⟨⟨b', eb', _, _, rfl⟩, _⟩ := h3
    have inj : ∀ {a b : B}, encT a = encT b → a.line = b.line := fun {a b} e => by
      cases a <;> cases b <;> simp [encT] at e
      · rfl
      · exact e.2.2.2.1
    rw [line_eq (fun z => hn ⟨by rw [z.1]; simp, by rw [z.2]; simp⟩), inj eb, inj eb']
  generalize txt4 = w at main ⊢
  cases hl : isN lo
  · simp [hl]
    exact main (by simp [hl]) _
  · cases hh : isN hi
    · simp [hl, hh]
      exact main (by simp [hh]) _
    · simp [hl, hh]
      refine h _ fun e1 e2 e3 => ?_
      obtain ⟨l, r, rfl, rfl, g1, g2, g3, g4, rfl⟩ := hd e1 e2 e3
      subst e1
      obtain ⟨rfl, _⟩ := h1.2
      have e1 := isNil_eq (by simpa using hl : l.isNil = true)
      have e2 := isNil_eq (by simpa using hh : r.isNil = true)
      subst e1 e2
      rfl
theorem st5 {De : DEnds} {b1 b2 b3 : Bool} {sh lo hi z : D} {ss rs sl rl sr rh tx : Str} {s0 s1 s3 s4 s8 s9 : Sl} {m : Mm} (h1 : Sh sh b1 ss rs) (h2 : Si lo b2 sl rl) (h3 : Si hi b3 sr rh)
    (hz : b1 = true → b2 = true → b3 = true → z = .tup [.v (.str "told"), .v (.str tx)])
    (h : ∀ s8 s9, De.nx ⟨[s0, s1, .d (dueD b1 b2 b3 rs rl rh tx), s3, s4, .d (.tup [sh, .v (.bl b1)]), .d (.tup [lo, .v (.bl b2)]), .d (.tup [hi, .v (.bl b3)]), s8, s9], m⟩) :
    (dFor (dItL (dFz (dLst (dCons (dTup (dCons (dC (.str "NotATree")) (dCons (dVar 7) dNil))) (dCons (dTup (dCons (dC (.str "NotATree")) (dCons (dVar 6) dNil))) (dCons (dTup (dCons (dC (.str "InvalidTint")) (dCons (dVar 5) dNil))) dNil)))))) (dGTup 2 (dGCons (dName 8) (dGCons (dName 9) dGNil))) (dIfS (dNot (dTru (dOp dIxR (dVar 9) (dC (.int 1))))) (dSet 2 (dTup (dCons (dVar 8) (dCons (dCB dRepr (dCons (dOp dIxR (dVar 9) (dC (.int 0))) dNil)) dNil)))) dNext)) De
      ⟨[s0, s1, .d z, s3, s4, .d (.tup [sh, .v (.bl b1)]), .d (.tup [lo, .v (.bl b2)]), .d (.tup [hi, .v (.bl b3)]), s8, s9], m⟩ := by
  have hz2 : 2 ≤ sizeLine := by rw [szl]; decide
  have hz3 : 3 ≤ sizeLine := by rw [szl]; decide
  have r1 := h1.1.rp
  have r2 : b2 = false → ∀ Q : D → Prop, Q (.v (.str rl)) → dRepr [lo] Q := fun e => by
    subst e
    have := h2.1
    rw [if_neg Bool.false_ne_true] at this
    exact this.1.rp
  have r3 : b3 = false → ∀ Q : D → Prop, Q (.v (.str rh)) → dRepr [hi] Q := fun e => by
    subst e
    have := h3.1
    rw [if_neg Bool.false_ne_true] at this
    exact this.1.rp
  have g1 : ∀ z s8 s9, (b1 = true → z = dueD b1 b2 b3 rs rl rh tx) → dForL (dGTup 2 (dGCons (dName 8) (dGCons (dName 9) dGNil))) (dIfS (dNot (dTru (dOp dIxR (dVar 9) (dC (.int 1))))) (dSet 2 (dTup (dCons (dVar 8) (dCons (dCB dRepr (dCons (dOp dIxR (dVar 9) (dC (.int 0))) dNil)) dNil)))) dNext) De [.tup [.v (.str "InvalidTint"), .tup [sh, .v (.bl b1)]]]
      ⟨[s0, s1, .d z, s3, s4, .d (.tup [sh, .v (.bl b1)]), .d (.tup [lo, .v (.bl b2)]), .d (.tup [hi, .v (.bl b3)]), s8, s9], m⟩ := fun z s8 s9 hz => by
    cases b1
    · simp [-dRepr]
      refine r1 _ ⟨hz2, ?_⟩
      exact h _ _
    · simp [-dRepr]
      rw [hz rfl]
      exact h _ _
  have g2 : ∀ z s8 s9, (b1 = true → b2 = true → z = dueD b1 b2 b3 rs rl rh tx) → dForL (dGTup 2 (dGCons (dName 8) (dGCons (dName 9) dGNil))) (dIfS (dNot (dTru (dOp dIxR (dVar 9) (dC (.int 1))))) (dSet 2 (dTup (dCons (dVar 8) (dCons (dCB dRepr (dCons (dOp dIxR (dVar 9) (dC (.int 0))) dNil)) dNil)))) dNext) De [.tup [.v (.str "NotATree"), .tup [lo, .v (.bl b2)]], .tup [.v (.str "InvalidTint"), .tup [sh, .v (.bl b1)]]]
      ⟨[s0, s1, .d z, s3, s4, .d (.tup [sh, .v (.bl b1)]), .d (.tup [lo, .v (.bl b2)]), .d (.tup [hi, .v (.bl b3)]), s8, s9], m⟩ := fun z s8 s9 hz => by
    unfold dForL
    cases b2
    · simp [-dRepr, -dForL]
      refine r2 rfl _ ⟨hz2, ?_⟩
      exact g1 _ _ _ fun e => by subst e; rfl
    · simp [-dRepr, -dForL]
      exact g1 _ _ _ fun e => hz e rfl
  refine ⟨hz2, hz2, hz2, hz3, ?_⟩
  show dForL _ _ De [.tup [.v (.str "NotATree"), .tup [hi, .v (.bl b3)]], .tup [.v (.str "NotATree"), .tup [lo, .v (.bl b2)]], .tup [.v (.str "InvalidTint"), .tup [sh, .v (.bl b1)]]] _
  unfold dForL
  cases b3
  · simp [-dRepr, -dForL]
    refine r3 rfl _ ⟨hz2, ?_⟩
    exact g2 _ _ _ fun e1 e2 => by subst e1 e2; rfl
  · simp [-dRepr, -dForL]
    exact g2 _ _ _ fun e1 e2 => by rw [hz e1 e2 rfl]; subst e1 e2; rfl
end K05

set_option maxHeartbeats 1000000
set_option pp.maxSteps 600
namespace K05
open PySem L2 DL
theorem strOk_sml {x : Str} (h : sml x) : PyData.strOk x = true := by
  unfold PyData.strOk
  rw [← Array.all_toList, List.all_eq_true]
  exact fun c hc => decide_eq_true (Nat.lt_trans (h c hc) (by decide))
theorem eqb_refl {d : D} {p : PyData} (h : py d = some p) (hs : SeqAt.shaped p = true) (hd : ∀ x, d ≠ .v x) : eqb d d = some true := by
  unfold eqb
  split
  · exact absurd rfl (hd _)
  · rw [h]
    simp only [hs, Bool.and_self, if_true]
    rw [PySem.SeqAt.eqv_refl p (SeqAt.canLay_of_shaped hs)]
theorem eqb_two {x y : Str} (hx : sml x) (hy : sml y) : eqb (.tup [.v (.str x), .v (.str y)]) (.tup [.v (.str x), .v (.str y)]) = some true := by
  refine eqb_refl (p := .tuple [.str x, .str y]) (by simp [py, py.pyA]) ?_ (fun _ => nofun)
  unfold SeqAt.shaped
  simp [PyData.canLay0, PyData.canLayAll0, strOk_sml hx, strOk_sml hy, PyData.depth, PyData.depthAll]
theorem eqb_pairs {x y : Str} (hx : sml x) (hy : sml y) : eqb (.lst [.tup [.v (.str x), .v (.str y)], .tup [.v (.str x), .v (.str y)]]) (.lst [.tup [.v (.str x), .v (.str y)], .tup [.v (.str x), .v (.str y)]]) = some true := by
  refine eqb_refl (p := .list [.tuple [.str x, .str y], .tuple [.str x, .str y]]) (by simp [py, py.pyA]) ?_ (fun _ => nofun)
  unfold SeqAt.shaped
  simp [PyData.canLay0, PyData.canLayAll0, strOk_sml hx, strOk_sml hy, PyData.depth, PyData.depthAll]
theorem told_sml : sml (Str.ofString "told") := sml_lit (by decide +kernel)
theorem nat_sml : sml (Str.ofString "NotATree") := sml_lit (by decide +kernel)
theorem int_sml : sml (Str.ofString "InvalidTint") := sml_lit (by decide +kernel)
def cRight : Con := fun ds Q _ => ds = [.stk] ∧ Q (.v (.bl true))
theorem q_right (ds : List D) (Q : D → Prop) (R : XD → Prop) (h : cRight ds Q R) :
    t__law_right (initC 0 cInitX) (liftC cThing) (liftC cSide) cCaught (liftC kStr) (liftC cPick) (conE Q R) (entry 10 ds) := by
  obtain ⟨rfl, hq⟩ := h
  have hz2 : 2 ≤ sizeLine := by rw [szl]; decide
  have hz3 : 3 ≤ sizeLine := by rw [szl]; decide
  have hz4 : 4 ≤ sizeLine := by rw [szl]; decide
  have hz5 : 5 ≤ sizeLine := by rw [szl]; decide
  have hz1 : 1 ≤ sizeLine := by rw [szl]; decide
  unfold t__law_right
  refine seq_i ?_
  simp only [dSet, dFz, dLst, dCons, dC, dNil]
  refine mk1 la _ _ _ ?_
  refine mk2 lz (mk1 lm) ⟨lm, trivial, trivial⟩ (by decide) _ _ _ ?_
  refine mk3 lb (mk1 lb) ⟨lb, trivial, trivial⟩ (by decide) _ _ _ ?_
  refine ⟨hz4, ?_⟩
  refine seq_i ?_
  have sd : [D.v .non, encT (.node (Str.ofString "a") .nil .nil), encT (.node (Str.ofString "z") (.node (Str.ofString "m") .nil .nil) .nil), encT (.node (Str.ofString "b") .nil (.node (Str.ofString "b") .nil .nil))] = sides.map encT := rfl
  rw [sd]
  have th1 : ∀ (Qe : D → Prop) (Re : XD → Prop), (∀ d ok s r, Sh d ok s r → Qe (.tup [d, .v (.bl ok)])) → cThing [.stk, .lst [.v (.str "a"), .v (.str "z"), .v (.str "q")]] Qe Re := fun Qe Re h =>
    ⟨_, rfl, by decide, by decide, fun x hx => by obtain ⟨s, r, q⟩ := shade_ok x hx; exact h _ _ _ _ q, fun x hx => by obtain ⟨s, r, q⟩ := odd_shade hx; exact h _ _ _ _ q⟩
  have th2 : ∀ (Qe : D → Prop) (Re : XD → Prop), (∀ d ok s r, Si d ok s r → Qe (.tup [d, .v (.bl ok)])) → cThing [.stk, .lst (sides.map encT)] Qe Re := fun Qe Re h =>
    ⟨_, rfl, by decide, by decide, fun x hx => by
      obtain ⟨b, hb, rfl⟩ := List.mem_map.mp hx
      exact h _ _ _ _ (side_of hb), fun x hx => by obtain ⟨s, r, q⟩ := odd_side hx; exact h _ _ _ _ q⟩
  generalize sides.map encT = sds at th2
  have s4 := fun (De : DEnds) b1 b2 b3 sh lo hi ss rs sl rl sr rh tx s0 s1 s3 s4 s8 s9 m h1 h2 h3 hd h => st4 (De := De) (b1 := b1) (b2 := b2) (b3 := b3) (sh := sh) (lo := lo) (hi := hi) (ss := ss) (rs := rs) (sl := sl) (rl := rl) (sr := sr) (rh := rh) (tx := tx) (s0 := s0) (s1 := s1) (s3 := s3) (s4 := s4) (s8 := s8) (s9 := s9) (m := m) h1 h2 h3 hd h
  generalize (dIfS (dOr (dTest (dNotN (dOp dIxR (dVar 6) (dC (.int 0))))) (dTest (dNotN (dOp dIxR (dVar 7) (dC (.int 0)))))) (dSet 2 _) dNext) = w4 at s4 ⊢
  have s5 := fun (De : DEnds) b1 b2 b3 sh lo hi z ss rs sl rl sr rh tx s0 s1 s3 s4 s8 s9 m h1 h2 h3 hz h => st5 (De := De) (b1 := b1) (b2 := b2) (b3 := b3) (sh := sh) (lo := lo) (hi := hi) (z := z) (ss := ss) (rs := rs) (sl := sl) (rl := rl) (sr := sr) (rh := rh) (tx := tx) (s0 := s0) (s1 := s1) (s3 := s3) (s4 := s4) (s8 := s8) (s9 := s9) (m := m) h1 h2 h3 hz h
  generalize (dFor _ (dGTup 2 (dGCons (dName 8) (dGCons (dName 9) dGNil))) _) = w5 at s5 ⊢
  have s6 := fun (x : XC) b1 b2 b3 sh lo hi ss rs sl rl sr rh tx s0 s1 s2 s3 s4 s8 s9 m (Qe : D → DS → Prop) h1 h2 h3 hd h => caught_mk (x := x) (b1 := b1) (b2 := b2) (b3 := b3) (sh := sh) (lo := lo) (hi := hi) (ss := ss) (rs := rs) (sl := sl) (rl := rl) (sr := sr) (rh := rh) (tx := tx) (s0 := s0) (s1 := s1) (s2 := s2) (s3 := s3) (s4 := s4) (s8 := s8) (s9 := s9) (m := m) false (Qe := Qe) h1 h2 h3 hd h
  have s7 := fun (x : XC) b1 b2 b3 sh lo hi ss rs sl rl sr rh tx s0 s1 s2 s3 s4 s8 s9 m (Qe : D → DS → Prop) h1 h2 h3 hd h => caught_mk (x := x) (b1 := b1) (b2 := b2) (b3 := b3) (sh := sh) (lo := lo) (hi := hi) (ss := ss) (rs := rs) (sl := sl) (rl := rl) (sr := sr) (rh := rh) (tx := tx) (s0 := s0) (s1 := s1) (s2 := s2) (s3 := s3) (s4 := s4) (s8 := s8) (s9 := s9) (m := m) true (Qe := Qe) h1 h2 h3 hd h
  simp only [Bool.false_eq_true, if_false, if_true] at s6 s7
  unfold mkP at s6
  unfold mkK at s7
  generalize (dLam cCaught (dOwnS [0] (liftC kStr) (dCons (dMake true 0 (initC 0 cInitX) 3 0 [.p 0, .p 1, .p 2] _ _) dNil))) = w6 at s6 ⊢
  generalize (dLam cCaught (dOwnS [0] (liftC kStr) (dCons (dMake true 0 (initC 0 cInitX) 0 3 [.k 1, .k 2, .k 0] _ _) dNil))) = w7 at s7 ⊢
  have s8 := fun (x : XC) d s r s0 s1 s2 s3 s5 s6 s7 s8 s9 m (Qe : D → DS → Prop) hv hb h => caught_one (x := x) (d := d) (s := s) (r := r) (s0 := s0) (s1 := s1) (s2 := s2) (s3 := s3) (s5 := s5) (s6 := s6) (s7 := s7) (s8 := s8) (s9 := s9) (m := m) (Qe := Qe) hv hb h
  generalize (dLam cCaught (dMake true 0 (initC 0 cInitX) 1 0 [.p 0, .n, .n] (dCons (dVar 4) dNil) dNil)) = w8 at s8 ⊢
  have mk := mk1 lk
  generalize (dMake true 0 (initC 0 cInitX) 1 0 [.p 0, .n, .n] (dCons (dC (.str "k")) dNil) dNil) = w9 at mk ⊢
  generalize hwl : (dRet (dAndV (dOp dEq w8 _) _)) = wl
  simp [-dSeq]
  refine ⟨hz3, th1 _ _ fun sh b1 ss rs h1 => ?_⟩
  refine th2 _ _ fun lo b2 sl rl h2 => ?_
  refine th2 _ _ fun hi b3 sr rh h3 => ?_
  simp [-dSeq, hz3]
  obtain ⟨tx, hd, txs⟩ : ∃ tx, Due b1 b2 b3 lo hi ss rs rl rh tx ∧ sml tx := by
    by_cases hall : b1 = true ∧ b2 = true ∧ b3 = true
    · obtain ⟨rfl, rfl, rfl⟩ := hall
      obtain ⟨⟨l, rfl, g1, g2, _⟩, _⟩ := h2
      obtain ⟨⟨r, rfl, g3, g4, _⟩, _⟩ := h3
      obtain ⟨_, hc⟩ := h1.2
      exact ⟨_, fun _ _ _ => ⟨l, r, rfl, rfl, g1, g3, g2, g4, rfl⟩, line_sml (b := .node ss l r) ⟨hc, g1, g3⟩⟩
    · exact ⟨"", fun a b c => absurd ⟨a, b, c⟩ hall, sml_lit (by decide +kernel)⟩
  have eqd : eqb (.lst [dueD b1 b2 b3 rs rl rh tx, dueD b1 b2 b3 rs rl rh tx]) (.lst [dueD b1 b2 b3 rs rl rh tx, dueD b1 b2 b3 rs rl rh tx]) = some true := by
    cases b1
    · exact eqb_pairs int_sml h1.1.sm
    · cases b2
      · have := h2.1
        rw [if_neg Bool.false_ne_true] at this
        exact eqb_pairs nat_sml this.1.sm
      · cases b3
        · have := h3.1
          rw [if_neg Bool.false_ne_true] at this
          exact eqb_pairs nat_sml this.1.sm
        · exact eqb_pairs told_sml txs
  refine seq_i ?_
  simp [-dSeq, hz2]
  refine seq_i ?_
  refine s4 _ b1 b2 b3 sh lo hi ss rs sl rl sr rh tx _ _ _ _ _ _ _ h1 h2 h3 hd fun z hz => ?_
  refine seq_i ?_
  refine s5 _ b1 b2 b3 sh lo hi z ss rs sl rl sr rh tx _ _ _ _ _ _ _ h1 h2 h3 hz fun s8' s9' => ?_
  refine seq_i ?_
  simp only [dSet, dOwn, dLst, dCons, dNil]
  refine s6 _ b1 b2 b3 sh lo hi ss rs sl rl sr rh tx _ _ _ _ _ _ _ _ _ h1 h2 h3 hd ?_
  refine ⟨hz1, fun a _ => ?_⟩
  dsimp only
  refine seq_i ?_
  simp only [dDrop, dLM, dVar, DS.put, DS.set, List.set_cons_succ, List.set_cons_zero, List.getElem?_cons_succ, List.getElem?_cons_zero, lstAt, if_true, dCons, dNil]
  refine s7 _ b1 b2 b3 sh lo hi ss rs sl rl sr rh tx _ _ _ _ _ _ _ _ _ h1 h2 h3 hd ?_
  simp [lApp, szl, -dSeq]
  refine seq_i ?_
  simp [vw, hz2, eqd, -dSeq]
  refine seq_i ?_
  simp [-dSeq, hz5]
  refine ⟨_, _, rfl, .inl rfl, by decide, by decide, fun d hd => ?_⟩
  obtain ⟨s, r, hv, hb⟩ : ∃ s r, Val d s r ∧ badTint d := by
    simp only [List.mem_cons, List.mem_nil_iff, or_false] at hd
    rcases hd with rfl | rfl | rfl | rfl | rfl
    · exact ⟨_, _, ⟨fun Q q => q, fun Q q => q, sml_lit (s := Str.ofString "None") (by decide +kernel), (by decide +kernel : (Str.ofString "None").length ≤ 100), fun m => rfl⟩, .inr rfl⟩
    · obtain ⟨⟨s, r, h⟩, h2, _⟩ := odd_all (.v (.str "")) (by simp); exact ⟨s, r, h, h2⟩
    · obtain ⟨⟨s, r, h⟩, h2, _⟩ := odd_all (.v (.str "A")) (by simp); exact ⟨s, r, h, h2⟩
    · obtain ⟨⟨s, r, h⟩, h2, _⟩ := odd_all (.v (.int 0)) (by simp); exact ⟨s, r, h, h2⟩
    · obtain ⟨⟨s, r, h⟩, h2, _⟩ := odd_all (.v (.bl true)) (by simp); exact ⟨s, r, h, h2⟩
  subst hwl
  simp only [dRet, dAndV, dOp]
  refine s8 _ d s r _ _ _ _ _ _ _ _ _ _ _ hv hb ?_
  simp [-dRepr]
  refine hv.rp _ ⟨hz2, ?_⟩
  rw [eqb_two int_sml hv.sm]
  simp
  refine mk _ _ _ ?_
  simp [encT]
  refine ⟨.node "k" .nil .nil, rfl, ⟨lk, trivial, trivial⟩, by decide, rfl, ?_⟩
  exact ⟨⟨_, rfl⟩, hq⟩
theorem p_law (ds : List D) (Q : D → Prop) (R : XD → Prop) (h : cLaw 63 ds Q R) : t_law (liftC cRight) (liftC cStock) (conE Q R) (entry 2 ds) := by
  obtain ⟨ns, rfl, hl, hq⟩ := h
  simp [t_law]
  refine ⟨by split <;> split <;> omega, by split <;> split <;> omega, ?_⟩
  refine lc_fun (fun _ => .v (.bl true)) _ (by rw [rngD_len, szl]; split <;> split <;> omega) (fun d hd k hk => ?_) ?_
  · obtain ⟨i, rfl, i0, i1⟩ := rngD_mem hd
    simp
    refine ⟨ns, i, rfl, i0, ?_, hl, ?_⟩
    · revert i1; split <;> split <;> omega
    · exact ⟨rfl, hk _⟩
  · have : ∀ xs : List D, ∃ bs : List Bool, xs.map (fun _ => D.v (.bl true)) = bs.map (fun x => D.v (.bl x)) ∧ bs.all _root_.id = true := fun xs => ⟨xs.map fun _ => true, by simp [Function.comp_def], by simp⟩
    obtain ⟨bs, e1, e2⟩ := this _
    rw [e1, blsD_bls]
    show Q (D.v (V.bl (bs.all _root_.id)))
    rw [e2]
    exact hq
end K05

namespace K05
open PySem L2 DL PySem.Calls
section
variable {P : Program} {w : World} {K : PySem.W.Frag} {mg : Str → Option Value} {base : Heap}
theorem G_pull (T : Txt K mg) : FnG P w K mg base 1 T.a__law_pull T.d__law_pull ["_law_stock_here", "_law_top"] (spM K T.cl T.tb (liftC cPull)) :=
  w__law_pull (k := 0) T (fun ds Q R ⟨_, h, _⟩ => by rw [h]; rfl) p_pull
theorem G_pick (T : Txt K mg) : FnG P w K mg base 2 T.a__law_pick T.d__law_pick ["_law_stock_here", "_law_menu"] (spM K T.cl T.tb (liftC cPick)) :=
  w__law_pick (k := 1) T (G_pull T) (fun ds Q R ⟨_, _, h, _⟩ => by rw [h]; rfl) p_pick
theorem G_thing (T : Txt K mg) : FnG P w K mg base 3 T.a__law_thing T.d__law_thing ["_law_stock_here", "_law_good"] (spM K T.cl T.tb (liftC cThing)) :=
  w__law_thing (k := 2) T ((G_pull T).mono (by omega)) ((G_pick T).mono (by omega)) (fun ds Q R ⟨_, h, _⟩ => by rw [h]; rfl) p_thing
theorem G_tint (T : Txt K mg) : FnG P w K mg base 1 T.a_is_tint T.d_is_tint ["value"] (spM K T.cl T.tb (liftC cTint)) :=
  w_is_tint (k := 0) T (fun ds Q R h => by rcases h with ⟨_, h, _⟩ | ⟨_, h, _⟩ <;> rw [h] <;> rfl) p_is_tint
theorem G_init (T : Txt K mg) : FnG P w K mg base 3 T.a_Tree_init T.d_Tree_init ["self", "tint", "left", "right"] (spM K T.cl T.tb (initC 0 cInitX)) :=
  w_Tree_init (k := 1) T (G_tint T) (w_InvalidTint_init T) (w_NotATree_init T) (w_side_text (k := 0) T (fun ds Q R ⟨_, h, _⟩ => by rw [h]; rfl) p_side_text) (w_side_size (k := 0) T (fun ds Q R ⟨_, h, _⟩ => by rw [h]; rfl) p_side_size)
    (w_side_levels (k := 0) T (fun ds Q R ⟨_, h, _⟩ => by rw [h]; rfl) p_side_levels) (w_side_routes (k := 0) T (fun ds Q R ⟨_, _, h, _⟩ => by rw [h]; rfl) p_side_routes) (fun ds Q R ⟨_, _, _, h, _⟩ => by rw [h]; rfl) p_initX
theorem G_str (T : Txt K mg) : FnG P w K mg base 1 T.a_Tree_str T.d_Tree_str ["self"] (spM K T.cl T.tb (liftC kStr)) :=
  w_Tree_str (k := 0) T (fun ds Q R ⟨_, h, _⟩ => by rw [h]; rfl) p_str
theorem G_side (T : Txt K mg) : FnG P w K mg base 4 T.a__law_side T.d__law_side ["_law_thing_here"] (spM K T.cl T.tb (liftC cSide)) :=
  w__law_side (k := 1) T (G_str T) (fun ds Q R ⟨_, _, _, _, h, _⟩ => by rw [h]; rfl) p_side
theorem G_right (T : Txt K mg) (hTB : LamX.TabB base mg T.cc__law_right T.ct__law_right) : FnG P w K mg base 9 T.a__law_right T.d__law_right ["_law_stock_here"] (spM K T.cl T.tb (liftC cRight)) :=
  w__law_right (k := 4) T ((G_init T).mono (by omega)) ((G_thing T).mono (by omega)) (G_side T) (w__law_caught (k := 7) T fun f act m Q R h => h f) ((G_str T).mono (by omega)) ((G_pick T).mono (by omega)) hTB (fun ds Q R ⟨h, _⟩ => by rw [h]; rfl) q_right
theorem ok_law (T : Txt K mg) (hTB : LamX.TabB base mg T.cc__law_right T.ct__law_right) : FnG P w K mg base 10 T.a_law T.d_law ["_law_cells"] (spM K T.cl T.tb (liftC (cLaw 63))) :=
  w_law (k := 9) T (G_right T hTB) ((w__law_stock (k := 0) T (fun ds Q R ⟨_, _, h, _⟩ => by rw [h]; rfl) p_stock).mono (by omega)) (fun ds Q R ⟨_, h, _⟩ => by rw [h]; rfl) p_law
end
end K05

set_option pp.maxSteps 400
namespace K05
open PySem L2 DL PySem.Calls
theorem all_mk {l : PySem.W.OpenLaw} {w : World} {K : PySem.W.Frag} {h : Heap} {mg : Str → Option Value} {fa : Addr} {C_Tree C_InvalidTint C_NotATree C_WrongValue f_is_tint f_InvalidTint_init f_NotATree_init f_side_text f_side_size f_side_levels f_side_routes f_Tree_init dT_Tree_init f__law_pull f__law_pick f__law_thing f_Tree_str f__law_side f__law_caught f__law_right f__law_stock f_law : Addr} {gt_LETTERS : Tok}
    {od_is_tint an_is_tint od_InvalidTint_init an_InvalidTint_init od_NotATree_init an_NotATree_init od_side_text an_side_text od_side_size an_side_size od_side_levels an_side_levels od_side_routes an_side_routes od_Tree_init an_Tree_init od__law_pull an__law_pull od__law_pick an__law_pick od__law_thing an__law_thing od_Tree_str an_Tree_str od__law_side an__law_side od__law_caught an__law_caught od__law_right an__law_right od__law_stock an__law_stock od_law an_law : Option Addr} {sl_is_tint sl_InvalidTint_init sl_NotATree_init sl_side_text sl_side_size sl_side_levels sl_side_routes sl_Tree_init sl__law_pull sl__law_pick sl__law_thing sl_Tree_str sl__law_side sl__law_caught sl__law_right sl__law_stock sl_law : Array (Option Value)} {oc_is_tint kV_is_tint dc_is_tint pm_is_tint cd_is_tint ct_is_tint oc_InvalidTint_init kV_InvalidTint_init dc_InvalidTint_init pm_InvalidTint_init cd_InvalidTint_init ct_InvalidTint_init oc_NotATree_init kV_NotATree_init dc_NotATree_init pm_NotATree_init cd_NotATree_init ct_NotATree_init oc_side_text kV_side_text dc_side_text pm_side_text cd_side_text ct_side_text oc_side_size kV_side_size dc_side_size pm_side_size cd_side_size ct_side_size oc_side_levels kV_side_levels dc_side_levels pm_side_levels cd_side_levels ct_side_levels oc_side_routes kV_side_routes dc_side_routes pm_side_routes cd_side_routes ct_side_routes oc_Tree_init kV_Tree_init dc_Tree_init pm_Tree_init cd_Tree_init ct_Tree_init oc__law_pull kV__law_pull dc__law_pull pm__law_pull cd__law_pull ct__law_pull oc__law_pick kV__law_pick dc__law_pick pm__law_pick cd__law_pick ct__law_pick oc__law_thing kV__law_thing dc__law_thing pm__law_thing cd__law_thing ct__law_thing oc_Tree_str kV_Tree_str dc_Tree_str pm_Tree_str cd_Tree_str ct_Tree_str oc__law_side kV__law_side dc__law_side pm__law_side cd__law_side ct__law_side oc__law_caught kV__law_caught dc__law_caught pm__law_caught cd__law_caught ct__law_caught oc__law_right kV__law_right dc__law_right pm__law_right cd__law_right ct__law_right oc__law_stock kV__law_stock dc__law_stock pm__law_stock cd__law_stock ct__law_stock oc_law kV_law dc_law pm_law cd_law ct_law : Value}
    {oT_Tree_init : Obj} {nT_Tree_init : Nat}
    {nm_InvalidTint qn_InvalidTint nm_NotATree qn_NotATree : Str} {N_InvalidTint N_NotATree : Addr} {bs_InvalidTint sb_InvalidTint bs_NotATree sb_NotATree : List Value} {sn_InvalidTint sn_NotATree : List Str} {ab_InvalidTint ab_NotATree : Bool} {co_InvalidTint co_NotATree : Option Bool} {dd_InvalidTint dd_NotATree : Option Addr} {k0_InvalidTint k1_InvalidTint k2_InvalidTint k3_InvalidTint k5_InvalidTint k0_NotATree k1_NotATree k2_NotATree k3_NotATree k5_NotATree : Option Value}
    {cA__law_right tA__law_right : Addr}
    (X : K.In h) (G : h.Ns mainGlobals mg) (hfa : mg "law" = some (.ref fa))
    (ns_InvalidTint : PySem.W.nsIn K mainGlobals "InvalidTint" = some (some (.ref C_InvalidTint)))
    (ns_NotATree : PySem.W.nsIn K mainGlobals "NotATree" = some (some (.ref C_NotATree)))
    (ns_WrongValue : PySem.W.nsIn K mainGlobals "WrongValue" = some (some (.ref C_WrongValue)))
    (ns_Tree : PySem.W.nsIn K mainGlobals "Tree" = some (some (.ref C_Tree)))
    (pg_Tree : PySem.W.plainGet K C_Tree Str.empty = true)
    (hd_Tree : PySem.W.hasDictIn K C_Tree = true)
    (po_Tree : PySem.W.plainOver K C_Tree = true)
    (sa_Tree : PySem.W.findIn K (.ref C_Tree) "__setattr__" = some (some (.builtin "object.__setattr__")))
    (ia_Tree : PySem.W.findIn K (.ref C_Tree) "__class__" = some (some (.builtin "object.__class__")))
    (im_Tree : PySem.W.mroIn K C_Tree (.type "object") = some true)
    (in_ : PySem.W.specialIn K (.builtin "object.__class__") "__get__" = some (some (.builtin "getset_descriptor.__get__")))
    (it_ : PySem.W.takesIn K (.builtin "object.__class__") = some true)
    (ns_is_tint : PySem.W.nsIn K mainGlobals "is_tint" = some (some (.ref f_is_tint)))
    (l_is_tint : K.lookup f_is_tint = some ⟨oc_is_tint, od_is_tint, .func (PySem.W.fnOf "is_tint" "is_tint" (defArgs s_is_tint) (defBody s_is_tint) (defScope s_is_tint) .none kV_is_tint dc_is_tint pm_is_tint an_is_tint cd_is_tint ct_is_tint), sl_is_tint⟩)
    (c_is_tint : PySem.W.codeIn K cd_is_tint "is_tint" = true)
    (kp_is_tint : PySem.W.keepIn K (.ref f_is_tint) = true)
    (l_InvalidTint_init : K.lookup f_InvalidTint_init = some ⟨oc_InvalidTint_init, od_InvalidTint_init, .func (PySem.W.fnOf "__init__" "InvalidTint.__init__" (defArgs s_InvalidTint_init) (defBody s_InvalidTint_init) (defScope s_InvalidTint_init) .none kV_InvalidTint_init dc_InvalidTint_init pm_InvalidTint_init an_InvalidTint_init cd_InvalidTint_init ct_InvalidTint_init), sl_InvalidTint_init⟩)
    (c_InvalidTint_init : PySem.W.codeIn K cd_InvalidTint_init "InvalidTint.__init__" = true)
    (l_NotATree_init : K.lookup f_NotATree_init = some ⟨oc_NotATree_init, od_NotATree_init, .func (PySem.W.fnOf "__init__" "NotATree.__init__" (defArgs s_NotATree_init) (defBody s_NotATree_init) (defScope s_NotATree_init) .none kV_NotATree_init dc_NotATree_init pm_NotATree_init an_NotATree_init cd_NotATree_init ct_NotATree_init), sl_NotATree_init⟩)
    (c_NotATree_init : PySem.W.codeIn K cd_NotATree_init "NotATree.__init__" = true)
    (ns_side_text : PySem.W.nsIn K mainGlobals "side_text" = some (some (.ref f_side_text)))
    (l_side_text : K.lookup f_side_text = some ⟨oc_side_text, od_side_text, .func (PySem.W.fnOf "side_text" "side_text" (defArgs s_side_text) (defBody s_side_text) (defScope s_side_text) .none kV_side_text dc_side_text pm_side_text an_side_text cd_side_text ct_side_text), sl_side_text⟩)
    (c_side_text : PySem.W.codeIn K cd_side_text "side_text" = true)
    (kp_side_text : PySem.W.keepIn K (.ref f_side_text) = true)
    (ns_side_size : PySem.W.nsIn K mainGlobals "side_size" = some (some (.ref f_side_size)))
    (l_side_size : K.lookup f_side_size = some ⟨oc_side_size, od_side_size, .func (PySem.W.fnOf "side_size" "side_size" (defArgs s_side_size) (defBody s_side_size) (defScope s_side_size) .none kV_side_size dc_side_size pm_side_size an_side_size cd_side_size ct_side_size), sl_side_size⟩)
    (c_side_size : PySem.W.codeIn K cd_side_size "side_size" = true)
    (kp_side_size : PySem.W.keepIn K (.ref f_side_size) = true)
    (ns_side_levels : PySem.W.nsIn K mainGlobals "side_levels" = some (some (.ref f_side_levels)))
    (l_side_levels : K.lookup f_side_levels = some ⟨oc_side_levels, od_side_levels, .func (PySem.W.fnOf "side_levels" "side_levels" (defArgs s_side_levels) (defBody s_side_levels) (defScope s_side_levels) .none kV_side_levels dc_side_levels pm_side_levels an_side_levels cd_side_levels ct_side_levels), sl_side_levels⟩)
    (c_side_levels : PySem.W.codeIn K cd_side_levels "side_levels" = true)
    (kp_side_levels : PySem.W.keepIn K (.ref f_side_levels) = true)
    (ns_side_routes : PySem.W.nsIn K mainGlobals "side_routes" = some (some (.ref f_side_routes)))
    (l_side_routes : K.lookup f_side_routes = some ⟨oc_side_routes, od_side_routes, .func (PySem.W.fnOf "side_routes" "side_routes" (defArgs s_side_routes) (defBody s_side_routes) (defScope s_side_routes) .none kV_side_routes dc_side_routes pm_side_routes an_side_routes cd_side_routes ct_side_routes), sl_side_routes⟩)
    (c_side_routes : PySem.W.codeIn K cd_side_routes "side_routes" = true)
    (kp_side_routes : PySem.W.keepIn K (.ref f_side_routes) = true)
    (fi_Tree_init_Tree : PySem.W.findIn K (.ref C_Tree) "__init__" = some (some (.ref f_Tree_init)))
    (fn_Tree_init : PySem.W.isFn K (.ref f_Tree_init) = true)
    (l_Tree_init : K.lookup f_Tree_init = some ⟨oc_Tree_init, od_Tree_init, .func (PySem.W.fnOf "__init__" "Tree.__init__" (defArgs s_Tree_init) (defBody s_Tree_init) (defScope s_Tree_init) (.ref dT_Tree_init) kV_Tree_init dc_Tree_init pm_Tree_init an_Tree_init cd_Tree_init ct_Tree_init), sl_Tree_init⟩)
    (c_Tree_init : PySem.W.codeIn K cd_Tree_init "Tree.__init__" = true)
    (lT_Tree_init : K.lookup dT_Tree_init = some oT_Tree_init)
    (hoT_Tree_init : oT_Tree_init.data = .seq #[.none, .none] nT_Tree_init)
    (ns__law_pull : PySem.W.nsIn K mainGlobals "_law_pull" = some (some (.ref f__law_pull)))
    (l__law_pull : K.lookup f__law_pull = some ⟨oc__law_pull, od__law_pull, .func (PySem.W.fnOf "_law_pull" "_law_pull" (defArgs s__law_pull) (defBody s__law_pull) (defScope s__law_pull) .none kV__law_pull dc__law_pull pm__law_pull an__law_pull cd__law_pull ct__law_pull), sl__law_pull⟩)
    (c__law_pull : PySem.W.codeIn K cd__law_pull "_law_pull" = true)
    (kp__law_pull : PySem.W.keepIn K (.ref f__law_pull) = true)
    (ns__law_pick : PySem.W.nsIn K mainGlobals "_law_pick" = some (some (.ref f__law_pick)))
    (l__law_pick : K.lookup f__law_pick = some ⟨oc__law_pick, od__law_pick, .func (PySem.W.fnOf "_law_pick" "_law_pick" (defArgs s__law_pick) (defBody s__law_pick) (defScope s__law_pick) .none kV__law_pick dc__law_pick pm__law_pick an__law_pick cd__law_pick ct__law_pick), sl__law_pick⟩)
    (c__law_pick : PySem.W.codeIn K cd__law_pick "_law_pick" = true)
    (kp__law_pick : PySem.W.keepIn K (.ref f__law_pick) = true)
    (ns__law_thing : PySem.W.nsIn K mainGlobals "_law_thing" = some (some (.ref f__law_thing)))
    (l__law_thing : K.lookup f__law_thing = some ⟨oc__law_thing, od__law_thing, .func (PySem.W.fnOf "_law_thing" "_law_thing" (defArgs s__law_thing) (defBody s__law_thing) (defScope s__law_thing) .none kV__law_thing dc__law_thing pm__law_thing an__law_thing cd__law_thing ct__law_thing), sl__law_thing⟩)
    (c__law_thing : PySem.W.codeIn K cd__law_thing "_law_thing" = true)
    (kp__law_thing : PySem.W.keepIn K (.ref f__law_thing) = true)
    (fi_Tree_str_Tree : PySem.W.findIn K (.ref C_Tree) "__str__" = some (some (.ref f_Tree_str)))
    (fn_Tree_str : PySem.W.isFn K (.ref f_Tree_str) = true)
    (l_Tree_str : K.lookup f_Tree_str = some ⟨oc_Tree_str, od_Tree_str, .func (PySem.W.fnOf "__str__" "Tree.__str__" (defArgs s_Tree_str) (defBody s_Tree_str) (defScope s_Tree_str) .none kV_Tree_str dc_Tree_str pm_Tree_str an_Tree_str cd_Tree_str ct_Tree_str), sl_Tree_str⟩)
    (c_Tree_str : PySem.W.codeIn K cd_Tree_str "Tree.__str__" = true)
    (ns__law_side : PySem.W.nsIn K mainGlobals "_law_side" = some (some (.ref f__law_side)))
    (l__law_side : K.lookup f__law_side = some ⟨oc__law_side, od__law_side, .func (PySem.W.fnOf "_law_side" "_law_side" (defArgs s__law_side) (defBody s__law_side) (defScope s__law_side) .none kV__law_side dc__law_side pm__law_side an__law_side cd__law_side ct__law_side), sl__law_side⟩)
    (c__law_side : PySem.W.codeIn K cd__law_side "_law_side" = true)
    (kp__law_side : PySem.W.keepIn K (.ref f__law_side) = true)
    (ns__law_caught : PySem.W.nsIn K mainGlobals "_law_caught" = some (some (.ref f__law_caught)))
    (l__law_caught : K.lookup f__law_caught = some ⟨oc__law_caught, od__law_caught, .func (PySem.W.fnOf "_law_caught" "_law_caught" (defArgs s__law_caught) (defBody s__law_caught) (defScope s__law_caught) .none kV__law_caught dc__law_caught pm__law_caught an__law_caught cd__law_caught ct__law_caught), sl__law_caught⟩)
    (c__law_caught : PySem.W.codeIn K cd__law_caught "_law_caught" = true)
    (kp__law_caught : PySem.W.keepIn K (.ref f__law_caught) = true)
    (ns__law_right : PySem.W.nsIn K mainGlobals "_law_right" = some (some (.ref f__law_right)))
    (l__law_right : K.lookup f__law_right = some ⟨oc__law_right, od__law_right, .func (PySem.W.fnOf "_law_right" "_law_right" (defArgs s__law_right) (defBody s__law_right) (defScope s__law_right) .none kV__law_right dc__law_right pm__law_right an__law_right cd__law_right ct__law_right), sl__law_right⟩)
    (c__law_right : PySem.W.codeIn K cd__law_right "_law_right" = true)
    (kp__law_right : PySem.W.keepIn K (.ref f__law_right) = true)
    (ns__law_stock : PySem.W.nsIn K mainGlobals "_law_stock" = some (some (.ref f__law_stock)))
    (l__law_stock : K.lookup f__law_stock = some ⟨oc__law_stock, od__law_stock, .func (PySem.W.fnOf "_law_stock" "_law_stock" (defArgs s__law_stock) (defBody s__law_stock) (defScope s__law_stock) .none kV__law_stock dc__law_stock pm__law_stock an__law_stock cd__law_stock ct__law_stock), sl__law_stock⟩)
    (c__law_stock : PySem.W.codeIn K cd__law_stock "_law_stock" = true)
    (kp__law_stock : PySem.W.keepIn K (.ref f__law_stock) = true)
    (ns_law : PySem.W.nsIn K mainGlobals "law" = some (some (.ref f_law)))
    (l_law : K.lookup f_law = some ⟨oc_law, od_law, .func (PySem.W.fnOf "law" "law" (defArgs s_law) (defBody s_law) (defScope s_law) .none kV_law dc_law pm_law an_law cd_law ct_law), sl_law⟩)
    (c_law : PySem.W.codeIn K cd_law "law" = true)
    (kp_law : PySem.W.keepIn K (.ref f_law) = true)
    (xl_InvalidTint : K.lookup C_InvalidTint = some (excClassObj nm_InvalidTint qn_InvalidTint C_InvalidTint N_InvalidTint bs_InvalidTint [.ref C_WrongValue, .type "ValueError", .type "Exception", .type "BaseException", .type "object"] true sn_InvalidTint sb_InvalidTint ab_InvalidTint co_InvalidTint dd_InvalidTint k0_InvalidTint k1_InvalidTint k2_InvalidTint k3_InvalidTint k5_InvalidTint "ValueError.__new__"))
    (xs_InvalidTint : PySem.W.findIn K (.ref C_InvalidTint) "__setattr__" = some (some (.builtin "object.__setattr__")))
    (xe_InvalidTint : PySem.W.subIn K (.ref C_InvalidTint) (.type "BaseException") = some true)
    (xy_InvalidTint : PySem.W.typeIn K (.ref C_InvalidTint) = some (.type "type"))
    (xk_InvalidTint : PySem.W.keepIn K (.ref C_InvalidTint) = true)
    (xi_InvalidTint : PySem.W.findIn K (.ref C_InvalidTint) "__init__" = some (some (.ref f_InvalidTint_init)))
    (xt_InvalidTint : PySem.W.typeIn K (.ref f_InvalidTint_init) = some (.type "function"))
    (xn_InvalidTint_given : PySem.W.findIn K (.ref C_InvalidTint) "given" = some none)
    (xl_NotATree : K.lookup C_NotATree = some (excClassObj nm_NotATree qn_NotATree C_NotATree N_NotATree bs_NotATree [.ref C_WrongValue, .type "ValueError", .type "Exception", .type "BaseException", .type "object"] true sn_NotATree sb_NotATree ab_NotATree co_NotATree dd_NotATree k0_NotATree k1_NotATree k2_NotATree k3_NotATree k5_NotATree "ValueError.__new__"))
    (xs_NotATree : PySem.W.findIn K (.ref C_NotATree) "__setattr__" = some (some (.builtin "object.__setattr__")))
    (xe_NotATree : PySem.W.subIn K (.ref C_NotATree) (.type "BaseException") = some true)
    (xy_NotATree : PySem.W.typeIn K (.ref C_NotATree) = some (.type "type"))
    (xk_NotATree : PySem.W.keepIn K (.ref C_NotATree) = true)
    (xi_NotATree : PySem.W.findIn K (.ref C_NotATree) "__init__" = some (some (.ref f_NotATree_init)))
    (xt_NotATree : PySem.W.typeIn K (.ref f_NotATree_init) = some (.type "function"))
    (xn_NotATree_given : PySem.W.findIn K (.ref C_NotATree) "given" = some none)
    (mk_Tree : PySem.W.makesIn K C_Tree = true)
    (kpc_Tree : PySem.W.keepIn K (.ref C_Tree) = true)
    (xq_InvalidTint : PySem.W.isClsIn K C_InvalidTint = true)
    (xb_InvalidTint_InvalidTint : PySem.W.subIn K (.ref C_InvalidTint) (.ref C_InvalidTint) = some true)
    (xb_NotATree_InvalidTint : PySem.W.subIn K (.ref C_NotATree) (.ref C_InvalidTint) = some false)
    (xg_InvalidTint : PySem.W.findIn K (.ref C_InvalidTint) "__getattribute__" = some (some (.builtin "BaseException.__getattribute__")))
    (xh_InvalidTint : PySem.W.findIn K (.ref C_InvalidTint) "__getattr__" = some none)
    (xd_InvalidTint : PySem.W.hasDictIn K C_InvalidTint = true)
    (xq_NotATree : PySem.W.isClsIn K C_NotATree = true)
    (xb_InvalidTint_NotATree : PySem.W.subIn K (.ref C_InvalidTint) (.ref C_NotATree) = some false)
    (xb_NotATree_NotATree : PySem.W.subIn K (.ref C_NotATree) (.ref C_NotATree) = some true)
    (xg_NotATree : PySem.W.findIn K (.ref C_NotATree) "__getattribute__" = some (some (.builtin "BaseException.__getattribute__")))
    (xh_NotATree : PySem.W.findIn K (.ref C_NotATree) "__getattr__" = some none)
    (xd_NotATree : PySem.W.hasDictIn K C_NotATree = true)
    (g_LETTERS : PySem.W.nsIn K mainGlobals "LETTERS" = some (some (.str "abcdefghijklmnopqrstuvwxyz" gt_LETTERS)))
    (ty_Tree : PySem.W.typeIn K (.ref C_Tree) = some (.type "type"))
    (mr_str_Tree : PySem.W.mroIn K C_Tree (.type "str") = some false)
    (n_Tree_depth : PySem.W.findIn K (.ref C_Tree) "depth" = some none)
    (n_Tree_first : PySem.W.findIn K (.ref C_Tree) "first" = some none)
    (n_Tree_letter : PySem.W.findIn K (.ref C_Tree) "letter" = some none)
    (n_Tree_line : PySem.W.findIn K (.ref C_Tree) "line" = some none)
    (n_Tree_nodes : PySem.W.findIn K (.ref C_Tree) "nodes" = some none)
    (n_Tree_routes : PySem.W.findIn K (.ref C_Tree) "routes" = some none)
    (n_Tree_second : PySem.W.findIn K (.ref C_Tree) "second" = some none)
    (hcd__law_right : cd__law_right = .ref cA__law_right)
    (z_abs : PySem.W.nsIn K mainGlobals "abs" = some none)
    (z_all : PySem.W.nsIn K mainGlobals "all" = some none)
    (z_divmod : PySem.W.nsIn K mainGlobals "divmod" = some none)
    (z_int : PySem.W.nsIn K mainGlobals "int" = some none)
    (z_isinstance : PySem.W.nsIn K mainGlobals "isinstance" = some none)
    (z_len : PySem.W.nsIn K mainGlobals "len" = some none)
    (z_max : PySem.W.nsIn K mainGlobals "max" = some none)
    (z_min : PySem.W.nsIn K mainGlobals "min" = some none)
    (z_range : PySem.W.nsIn K mainGlobals "range" = some none)
    (z_repr : PySem.W.nsIn K mainGlobals "repr" = some none)
    (z_str : PySem.W.nsIn K mainGlobals "str" = some none)
    (z_tuple : PySem.W.nsIn K mainGlobals "tuple" = some none)
    : ∃ fd : FuncData, (∀ (s : Shared) (v : Value), BindsTo s fd ⟨[v], []⟩ [("_law_cells", v)]) ∧ ∀ base : Heap, K.In base → base.Ns mainGlobals mg → (∀ p ∈ ([(cA__law_right, tA__law_right)] : List (Addr × Addr)), LamX.TabB base mg p.1 p.2) → FnG l.prog w K mg base 10 fa fd ["_law_cells"] (spLaw K [(tA__law_right, fun _ _ => ((("_law_right" : Str) ++ ".<locals>.") ++ "<lambda>" : Str))] 63) := by
  have e : f_law = fa := by
    have e := (PySem.W.mg_of X G ns_law).symm.trans hfa
    cases e; rfl
  subst e
  let cl0 : Nat → Addr := fun c => match c with | 0 => C_Tree | 100 => C_InvalidTint | 107 => C_NotATree | _ => C_Tree
  have clTop : ∀ c, 1 ≤ c → c < 100 → C_Tree = cl0 c := by
    intro c h1 h2
    show _ = (match c with | 0 => C_Tree | 100 => C_InvalidTint | 107 => C_NotATree | _ => C_Tree)
    split <;> first | rfl | omega
  let T : Txt K mg := {
    cl := cl0
    tb := [(tA__law_right, fun _ _ => ((("_law_right" : Str) ++ ".<locals>.") ++ "<lambda>" : Str))]
    cls := perC (n := 1) (by decide) (fun c => match c with | 0 => fun _ => ⟨⟨pg_Tree, hd_Tree, po_Tree, sa_Tree⟩, ia_Tree, in_, it_, im_Tree⟩ | _ + 1 => fun h => absurd h (by omega)) (fun c h1 h2 => clTop c h1 h2 ▸ ⟨⟨pg_Tree, hd_Tree, po_Tree, sa_Tree⟩, ia_Tree, in_, it_, im_Tree⟩)
    a_is_tint := f_is_tint
    d_is_tint := (PySem.W.fnOf "is_tint" "is_tint" (defArgs s_is_tint) (defBody s_is_tint) (defScope s_is_tint) .none kV_is_tint dc_is_tint pm_is_tint an_is_tint cd_is_tint ct_is_tint)
    a_InvalidTint_init := f_InvalidTint_init
    d_InvalidTint_init := (PySem.W.fnOf "__init__" "InvalidTint.__init__" (defArgs s_InvalidTint_init) (defBody s_InvalidTint_init) (defScope s_InvalidTint_init) .none kV_InvalidTint_init dc_InvalidTint_init pm_InvalidTint_init an_InvalidTint_init cd_InvalidTint_init ct_InvalidTint_init)
    a_NotATree_init := f_NotATree_init
    d_NotATree_init := (PySem.W.fnOf "__init__" "NotATree.__init__" (defArgs s_NotATree_init) (defBody s_NotATree_init) (defScope s_NotATree_init) .none kV_NotATree_init dc_NotATree_init pm_NotATree_init an_NotATree_init cd_NotATree_init ct_NotATree_init)
    a_side_text := f_side_text
    d_side_text := (PySem.W.fnOf "side_text" "side_text" (defArgs s_side_text) (defBody s_side_text) (defScope s_side_text) .none kV_side_text dc_side_text pm_side_text an_side_text cd_side_text ct_side_text)
    a_side_size := f_side_size
    d_side_size := (PySem.W.fnOf "side_size" "side_size" (defArgs s_side_size) (defBody s_side_size) (defScope s_side_size) .none kV_side_size dc_side_size pm_side_size an_side_size cd_side_size ct_side_size)
    a_side_levels := f_side_levels
    d_side_levels := (PySem.W.fnOf "side_levels" "side_levels" (defArgs s_side_levels) (defBody s_side_levels) (defScope s_side_levels) .none kV_side_levels dc_side_levels pm_side_levels an_side_levels cd_side_levels ct_side_levels)
    a_side_routes := f_side_routes
    d_side_routes := (PySem.W.fnOf "side_routes" "side_routes" (defArgs s_side_routes) (defBody s_side_routes) (defScope s_side_routes) .none kV_side_routes dc_side_routes pm_side_routes an_side_routes cd_side_routes ct_side_routes)
    a_Tree_init := f_Tree_init
    d_Tree_init := (PySem.W.fnOf "__init__" "Tree.__init__" (defArgs s_Tree_init) (defBody s_Tree_init) (defScope s_Tree_init) (.ref dT_Tree_init) kV_Tree_init dc_Tree_init pm_Tree_init an_Tree_init cd_Tree_init ct_Tree_init)
    a__law_pull := f__law_pull
    d__law_pull := (PySem.W.fnOf "_law_pull" "_law_pull" (defArgs s__law_pull) (defBody s__law_pull) (defScope s__law_pull) .none kV__law_pull dc__law_pull pm__law_pull an__law_pull cd__law_pull ct__law_pull)
    a__law_pick := f__law_pick
    d__law_pick := (PySem.W.fnOf "_law_pick" "_law_pick" (defArgs s__law_pick) (defBody s__law_pick) (defScope s__law_pick) .none kV__law_pick dc__law_pick pm__law_pick an__law_pick cd__law_pick ct__law_pick)
    a__law_thing := f__law_thing
    d__law_thing := (PySem.W.fnOf "_law_thing" "_law_thing" (defArgs s__law_thing) (defBody s__law_thing) (defScope s__law_thing) .none kV__law_thing dc__law_thing pm__law_thing an__law_thing cd__law_thing ct__law_thing)
    a_Tree_str := f_Tree_str
    d_Tree_str := (PySem.W.fnOf "__str__" "Tree.__str__" (defArgs s_Tree_str) (defBody s_Tree_str) (defScope s_Tree_str) .none kV_Tree_str dc_Tree_str pm_Tree_str an_Tree_str cd_Tree_str ct_Tree_str)
    a__law_side := f__law_side
    d__law_side := (PySem.W.fnOf "_law_side" "_law_side" (defArgs s__law_side) (defBody s__law_side) (defScope s__law_side) .none kV__law_side dc__law_side pm__law_side an__law_side cd__law_side ct__law_side)
    a__law_caught := f__law_caught
    d__law_caught := (PySem.W.fnOf "_law_caught" "_law_caught" (defArgs s__law_caught) (defBody s__law_caught) (defScope s__law_caught) .none kV__law_caught dc__law_caught pm__law_caught an__law_caught cd__law_caught ct__law_caught)
    a__law_right := f__law_right
    d__law_right := (PySem.W.fnOf "_law_right" "_law_right" (defArgs s__law_right) (defBody s__law_right) (defScope s__law_right) .none kV__law_right dc__law_right pm__law_right an__law_right cd__law_right ct__law_right)
    a__law_stock := f__law_stock
    d__law_stock := (PySem.W.fnOf "_law_stock" "_law_stock" (defArgs s__law_stock) (defBody s__law_stock) (defScope s__law_stock) .none kV__law_stock dc__law_stock pm__law_stock an__law_stock cd__law_stock ct__law_stock)
    a_law := f_law
    d_law := (PySem.W.fnOf "law" "law" (defArgs s_law) (defBody s_law) (defScope s_law) .none kV_law dc_law pm_law an_law cd_law ct_law)
    x_is_tint := funx_mk l_is_tint c_is_tint
    m_is_tint := PySem.W.mg_of X G ns_is_tint
    k_is_tint := kp_is_tint
    x_InvalidTint_init := funx_mk l_InvalidTint_init c_InvalidTint_init
    x_NotATree_init := funx_mk l_NotATree_init c_NotATree_init
    x_side_text := funx_mk l_side_text c_side_text
    m_side_text := PySem.W.mg_of X G ns_side_text
    k_side_text := kp_side_text
    x_side_size := funx_mk l_side_size c_side_size
    m_side_size := PySem.W.mg_of X G ns_side_size
    k_side_size := kp_side_size
    x_side_levels := funx_mk l_side_levels c_side_levels
    m_side_levels := PySem.W.mg_of X G ns_side_levels
    k_side_levels := kp_side_levels
    x_side_routes := funx_mk l_side_routes c_side_routes
    m_side_routes := PySem.W.mg_of X G ns_side_routes
    k_side_routes := kp_side_routes
    x_Tree_init := funx_mk l_Tree_init c_Tree_init
    x__law_pull := funx_mk l__law_pull c__law_pull
    m__law_pull := PySem.W.mg_of X G ns__law_pull
    k__law_pull := kp__law_pull
    x__law_pick := funx_mk l__law_pick c__law_pick
    m__law_pick := PySem.W.mg_of X G ns__law_pick
    k__law_pick := kp__law_pick
    x__law_thing := funx_mk l__law_thing c__law_thing
    m__law_thing := PySem.W.mg_of X G ns__law_thing
    k__law_thing := kp__law_thing
    x_Tree_str := funx_mk l_Tree_str c_Tree_str
    x__law_side := funx_mk l__law_side c__law_side
    m__law_side := PySem.W.mg_of X G ns__law_side
    k__law_side := kp__law_side
    x__law_caught := funx_mk l__law_caught c__law_caught
    m__law_caught := PySem.W.mg_of X G ns__law_caught
    k__law_caught := kp__law_caught
    x__law_right := funx_mk l__law_right c__law_right
    m__law_right := PySem.W.mg_of X G ns__law_right
    k__law_right := kp__law_right
    x__law_stock := funx_mk l__law_stock c__law_stock
    m__law_stock := PySem.W.mg_of X G ns__law_stock
    k__law_stock := kp__law_stock
    x_law := funx_mk l_law c_law
    m_law := PySem.W.mg_of X G ns_law
    k_law := kp_law
    m_InvalidTint := PySem.W.mg_of X G ns_InvalidTint
    ox_InvalidTint := oex_of PySem.F.excBase_ValueError PySem.F.store_ValueError (by decide +kernel) xl_InvalidTint xs_InvalidTint xe_InvalidTint xy_InvalidTint xk_InvalidTint
    xi_InvalidTint := xi_InvalidTint
    xt_InvalidTint := xt_InvalidTint
    xn_InvalidTint_given := xn_InvalidTint_given
    m_NotATree := PySem.W.mg_of X G ns_NotATree
    ox_NotATree := oex_of PySem.F.excBase_ValueError PySem.F.store_ValueError (by decide +kernel) xl_NotATree xs_NotATree xe_NotATree xy_NotATree xk_NotATree
    xi_NotATree := xi_NotATree
    xt_NotATree := xt_NotATree
    xn_NotATree_given := xn_NotATree_given
    b_InvalidTint_init_1 := bnd_mk fun fs us ws a b c => match fs, us, ws, a, b, c with | [_], [_], [], _, _, _ => rfl
    b_NotATree_init_1 := bnd_mk fun fs us ws a b c => match fs, us, ws, a, b, c with | [_], [_], [], _, _, _ => rfl
    b_Tree_init_0_right_tint_left := bnd_dflt lT_Tree_init hoT_Tree_init fun fs us ws a b c => match fs, us, ws, a, b, c with | [_], [], [_, _, _], _, _, _ => ⟨_, rfl, rfl⟩
    b_Tree_init_1 := bnd_dflt lT_Tree_init hoT_Tree_init fun fs us ws a b c => match fs, us, ws, a, b, c with | [_], [_], [], _, _, _ => ⟨_, rfl, rfl⟩
    b_Tree_init_2 := bnd_dflt lT_Tree_init hoT_Tree_init fun fs us ws a b c => match fs, us, ws, a, b, c with | [_], [_, _], [], _, _, _ => ⟨_, rfl, rfl⟩
    b_Tree_init_3 := bnd_dflt lT_Tree_init hoT_Tree_init fun fs us ws a b c => match fs, us, ws, a, b, c with | [_], [_, _, _], [], _, _, _ => ⟨_, rfl, rfl⟩
    b_Tree_str_0 := bnd_mk fun fs us ws a b c => match fs, us, ws, a, b, c with | [_], [], [], _, _, _ => rfl
    b__law_pick_2 := bnd_mk fun fs us ws a b c => match fs, us, ws, a, b, c with | [], [_, _], [], _, _, _ => rfl
    b__law_pull_2 := bnd_mk fun fs us ws a b c => match fs, us, ws, a, b, c with | [], [_, _], [], _, _, _ => rfl
    b__law_right_1 := bnd_mk fun fs us ws a b c => match fs, us, ws, a, b, c with | [], [_], [], _, _, _ => rfl
    b__law_side_1 := bnd_mk fun fs us ws a b c => match fs, us, ws, a, b, c with | [], [_], [], _, _, _ => rfl
    b__law_stock_2 := bnd_mk fun fs us ws a b c => match fs, us, ws, a, b, c with | [], [_, _], [], _, _, _ => rfl
    b__law_thing_2 := bnd_mk fun fs us ws a b c => match fs, us, ws, a, b, c with | [], [_, _], [], _, _, _ => rfl
    b_is_tint_1 := bnd_mk fun fs us ws a b c => match fs, us, ws, a, b, c with | [], [_], [], _, _, _ => rfl
    b_side_levels_1 := bnd_mk fun fs us ws a b c => match fs, us, ws, a, b, c with | [], [_], [], _, _, _ => rfl
    b_side_routes_2 := bnd_mk fun fs us ws a b c => match fs, us, ws, a, b, c with | [], [_, _], [], _, _, _ => rfl
    b_side_size_1 := bnd_mk fun fs us ws a b c => match fs, us, ws, a, b, c with | [], [_], [], _, _, _ => rfl
    b_side_text_1 := bnd_mk fun fs us ws a b c => match fs, us, ws, a, b, c with | [], [_], [], _, _, _ => rfl
    bg__law_caught := L2.Binds.all fun us h => match us, h with | [_], _ => rfl
    m_Tree := PySem.W.mg_of X G ns_Tree
    k_Tree := ⟨mk_Tree, fi_Tree_init_Tree, fn_Tree_init, kpc_Tree⟩
    cx_InvalidTint := fun c b e => by unfold cat_InvalidTint at e; split at e <;> first | (cases e; first | exact exm_of xe_InvalidTint xq_InvalidTint xy_InvalidTint xb_InvalidTint_InvalidTint | exact exm_of xe_InvalidTint xq_InvalidTint xy_InvalidTint xb_NotATree_InvalidTint) | cases e
    xc_InvalidTint := fun c e => by unfold cat_InvalidTint at e; split at e <;> first | (cases e; done) | (first | exact ⟨xg_InvalidTint, xh_InvalidTint, xe_InvalidTint, xd_InvalidTint⟩)
    cx_NotATree := fun c b e => by unfold cat_NotATree at e; split at e <;> first | (cases e; first | exact exm_of xe_NotATree xq_NotATree xy_NotATree xb_InvalidTint_NotATree | exact exm_of xe_NotATree xq_NotATree xy_NotATree xb_NotATree_NotATree) | cases e
    xc_NotATree := fun c e => by unfold cat_NotATree at e; split at e <;> first | (cases e; done) | (first | exact ⟨xg_NotATree, xh_NotATree, xe_NotATree, xd_NotATree⟩)
    g_LETTERS := ⟨_, PySem.W.mg_of X G g_LETTERS, ⟨_, rfl⟩⟩
    it_Tree := .of (.own _) (kit_tr im_Tree ty_Tree rfl) (kit_tr im_Tree ty_Tree rfl) (kit_tr im_Tree ty_Tree rfl) (kit_tr im_Tree ty_Tree rfl) (kit_tr im_Tree ty_Tree rfl) (kit_tr im_Tree ty_Tree rfl) (kit_tr im_Tree ty_Tree rfl) (by decide) fun c k e => match c, e with | 0, e => by cases e; exact kit_same | _ + 1, e => by cases e
    it_str := .of (.ty _) (kit_ty (by decide +kernel)) (kit_ty (by decide +kernel)) (kit_ty (by decide +kernel)) (kit_ty (by decide +kernel)) (kit_ty (by decide +kernel)) (kit_ty (by decide +kernel)) (kit_ty (by decide +kernel)) (by decide) fun c k e => match c, e with | 0, e => by cases e; exact kit_rt mr_str_Tree (by decide +kernel) | _ + 1, e => by cases e
    n_depth := perC (n := 1) (by decide) (fun c => match c with | 0 => fun _ => n_Tree_depth | _ + 1 => fun h => absurd h (by omega)) (fun c h1 h2 => clTop c h1 h2 ▸ n_Tree_depth)
    n_first := perC (n := 1) (by decide) (fun c => match c with | 0 => fun _ => n_Tree_first | _ + 1 => fun h => absurd h (by omega)) (fun c h1 h2 => clTop c h1 h2 ▸ n_Tree_first)
    n_letter := perC (n := 1) (by decide) (fun c => match c with | 0 => fun _ => n_Tree_letter | _ + 1 => fun h => absurd h (by omega)) (fun c h1 h2 => clTop c h1 h2 ▸ n_Tree_letter)
    n_line := perC (n := 1) (by decide) (fun c => match c with | 0 => fun _ => n_Tree_line | _ + 1 => fun h => absurd h (by omega)) (fun c h1 h2 => clTop c h1 h2 ▸ n_Tree_line)
    n_nodes := perC (n := 1) (by decide) (fun c => match c with | 0 => fun _ => n_Tree_nodes | _ + 1 => fun h => absurd h (by omega)) (fun c h1 h2 => clTop c h1 h2 ▸ n_Tree_nodes)
    n_routes := perC (n := 1) (by decide) (fun c => match c with | 0 => fun _ => n_Tree_routes | _ + 1 => fun h => absurd h (by omega)) (fun c h1 h2 => clTop c h1 h2 ▸ n_Tree_routes)
    n_second := perC (n := 1) (by decide) (fun c => match c with | 0 => fun _ => n_Tree_second | _ + 1 => fun h => absurd h (by omega)) (fun c h1 h2 => clTop c h1 h2 ▸ n_Tree_second)
    o_Tree_str := List.forall_mem_cons.mpr ⟨fi_Tree_str_Tree, fun _ h => nomatch h⟩
    of_Tree_str := fn_Tree_str
    cc__law_right := cA__law_right
    ct__law_right := tA__law_right
    cd__law_right := hcd__law_right
    tbm__law_right := ⟨_, List.mem_singleton.mpr rfl, fun _ _ => rfl, fun p hp _ => by rw [List.mem_singleton.mp hp]⟩
    xa_InvalidTint_given := fun c e => by unfold cat_InvalidTint at e; split at e <;> first | (cases e; done) | (first | exact xn_InvalidTint_given)
    xa_NotATree_given := fun c e => by unfold cat_NotATree at e; split at e <;> first | (cases e; done) | (first | exact xn_NotATree_given)
    z_abs := PySem.W.mg_none_of X G z_abs
    z_all := PySem.W.mg_none_of X G z_all
    z_divmod := PySem.W.mg_none_of X G z_divmod
    z_int := PySem.W.mg_none_of X G z_int
    z_isinstance := PySem.W.mg_none_of X G z_isinstance
    z_len := PySem.W.mg_none_of X G z_len
    z_max := PySem.W.mg_none_of X G z_max
    z_min := PySem.W.mg_none_of X G z_min
    z_range := PySem.W.mg_none_of X G z_range
    z_repr := PySem.W.mg_none_of X G z_repr
    z_str := PySem.W.mg_none_of X G z_str
    z_tuple := PySem.W.mg_none_of X G z_tuple
  }
  exact ⟨(PySem.W.fnOf "law" "law" (defArgs s_law) (defBody s_law) (defScope s_law) .none kV_law dc_law pm_law an_law cd_law ct_law), fun s v => .of_eq rfl, fun base _ _ tbs => law_sp (ok_law T (tbs _ (List.mem_cons_self ..)))⟩
theorem walk (cA__law_right tA__law_right : Addr) {l : PySem.W.OpenLaw} {q : Program} {loose : List Str} {XP : (Str → Option Value) → Heap → Prop} {YP : World → Heap → Prop} {d : DefRec} {K : Params → PySem.W.Frag} (hn : l.most = some 63) (hdf : d.params.defaults = [])
    (hY : ∀ (w : World) (h : Heap), YP w h → (K w.params).In h) (hT : ∀ (w : World) (h : Heap), YP w h → TabsIn (K w.params) h [(cA__law_right, tA__law_right)])
    (F : ∀ (w : World) (mg : Str → Option Value) (fa : Addr) (h : Heap), (K w.params).In h → h.Ns mainGlobals mg → mg d.name = some (.ref fa) →
      ∃ fd : FuncData, (∀ (s : Shared) (u : Value), BindsTo s fd ⟨[u], []⟩ [("_law_cells", u)]) ∧ ∀ base : Heap, (K w.params).In base → base.Ns mainGlobals mg → (∀ p ∈ ([(cA__law_right, tA__law_right)] : List (Addr × Addr)), LamX.TabB base mg p.1 p.2) → FnG l.prog w (K w.params) mg base 10 fa fd ["_law_cells"] (spLaw (K w.params) [(tA__law_right, fun _ _ => ((("_law_right" : Str) ++ ".<locals>.") ++ "<lambda>" : Str))] 63)) :
    PySem.W.WalkO q loose XP YP l.row.toRowW d [] (fun f vs => PySem.call f vs) :=
  walkGT (n := 63) (k := 10) (x := "_law_cells") (cs := [(cA__law_right, tA__law_right)]) (sp := fun w => spLaw (K w.params) [(tA__law_right, fun _ _ => ((("_law_right" : Str) ++ ".<locals>.") ++ "<lambda>" : Str))] 63) hn (by decide) hdf ⟨rfl, by decide, by decide⟩ hY hT F fun _ _ a ns hl hS ht => ⟨a, ns, rfl, hS, (fun p hp => by rw [List.mem_singleton.mp hp]; exact .nil (ht _ (List.mem_singleton.mpr rfl))), hl, fun _ => rfl⟩
end K05

set_option pp.maxSteps 400 in
open PySem PySem.W PyProof.Rows in
set_option maxRecDepth 100000 in
set_option maxHeartbeats 0 in
theorem PySem.Challenge.cw_pilewalks_k05_trees_are_refused_holds : PySem.Challenge.rw_pilewalks_k05_trees_are_refused.Holds := by
  w_on; o_law; k_head; (case hw => w_witness2)
  k_fill
  refine K05.walk 320 316 (l := PySem.Challenge.rw_pilewalks_k05_trees_are_refused) rfl rfl (fun w h Y => PySem.W.km_in_of Y) (fun w h Y => DL.tabsIn_of (PySem.W.km_in_of Y) (PySem.W.km_tabs_of Y) (by kernel_rfl)) ?F
  case F =>
    intro w mg fa h KX G hmg
    refine' K05.all_mk KX G hmg ?ns_InvalidTint ?ns_NotATree ?ns_WrongValue ?ns_Tree ?pg_Tree ?hd_Tree ?po_Tree ?sa_Tree ?ia_Tree ?im_Tree ?in_ ?it_ ?ns_is_tint ?l_is_tint ?c_is_tint ?kp_is_tint ?l_InvalidTint_init ?c_InvalidTint_init ?l_NotATree_init ?c_NotATree_init ?ns_side_text ?l_side_text ?c_side_text ?kp_side_text ?ns_side_size ?l_side_size ?c_side_size ?kp_side_size ?ns_side_levels ?l_side_levels ?c_side_levels ?kp_side_levels ?ns_side_routes ?l_side_routes ?c_side_routes ?kp_side_routes ?fi_Tree_init_Tree ?fn_Tree_init ?l_Tree_init ?c_Tree_init ?lT_Tree_init ?hoT_Tree_init ?ns__law_pull ?l__law_pull ?c__law_pull ?kp__law_pull ?ns__law_pick ?l__law_pick ?c__law_pick ?kp__law_pick ?ns__law_thing ?l__law_thing ?c__law_thing ?kp__law_thing ?fi_Tree_str_Tree ?fn_Tree_str ?l_Tree_str ?c_Tree_str ?ns__law_side ?l__law_side ?c__law_side ?kp__law_side ?ns__law_caught ?l__law_caught ?c__law_caught ?kp__law_caught ?ns__law_right ?l__law_right ?c__law_right ?kp__law_right ?ns__law_stock ?l__law_stock ?c__law_stock ?kp__law_stock ?ns_law ?l_law ?c_law ?kp_law ?xl_InvalidTint ?xs_InvalidTint ?xe_InvalidTint ?xy_InvalidTint ?xk_InvalidTint ?xi_InvalidTint ?xt_InvalidTint ?xn_InvalidTint_given ?xl_NotATree ?xs_NotATree ?xe_NotATree ?xy_NotATree ?xk_NotATree ?xi_NotATree ?xt_NotATree ?xn_NotATree_given ?mk_Tree ?kpc_Tree ?xq_InvalidTint ?xb_InvalidTint_InvalidTint ?xb_NotATree_InvalidTint ?xg_InvalidTint ?xh_InvalidTint ?xd_InvalidTint ?xq_NotATree ?xb_InvalidTint_NotATree ?xb_NotATree_NotATree ?xg_NotATree ?xh_NotATree ?xd_NotATree ?g_LETTERS ?ty_Tree ?mr_str_Tree ?n_Tree_depth ?n_Tree_first ?n_Tree_letter ?n_Tree_line ?n_Tree_nodes ?n_Tree_routes ?n_Tree_second ?hcd__law_right ?z_abs ?z_all ?z_divmod ?z_int ?z_isinstance ?z_len ?z_max ?z_min ?z_range ?z_repr ?z_str ?z_tuple
    (case ns_InvalidTint => k_is)
    (case ns_NotATree => k_is)
    (case ns_WrongValue => k_is)
    (case ns_Tree => k_is)
    (case ns_is_tint => k_is)
    (case ns_side_text => k_is)
    (case ns_side_size => k_is)
    (case ns_side_levels => k_is)
    (case ns_side_routes => k_is)
    (case ns__law_pull => k_is)
    (case ns__law_pick => k_is)
    (case ns__law_thing => k_is)
    (case ns__law_side => k_is)
    (case ns__law_caught => k_is)
    (case ns__law_right => k_is)
    (case ns__law_stock => k_is)
    (case ns_law => k_is)
    (case fi_Tree_init_Tree => k_is)
    (case fi_Tree_str_Tree => k_is)
    (case xi_InvalidTint => k_is)
    (case xi_NotATree => k_is)
    (case pg_Tree => k_is)
    (case hd_Tree => k_is)
    (case po_Tree => k_is)
    (case sa_Tree => k_is)
    (case ia_Tree => k_is)
    (case im_Tree => k_is)
    (case in_ => k_is)
    (case it_ => k_is)
    (case l_is_tint => k_is)
    (case c_is_tint => k_is)
    (case kp_is_tint => k_is)
    (case l_InvalidTint_init => k_is)
    (case c_InvalidTint_init => k_is)
    (case l_NotATree_init => k_is)
    (case c_NotATree_init => k_is)
    (case l_side_text => k_is)
    (case c_side_text => k_is)
    (case kp_side_text => k_is)
    (case l_side_size => k_is)
    (case c_side_size => k_is)
    (case kp_side_size => k_is)
    (case l_side_levels => k_is)
    (case c_side_levels => k_is)
    (case kp_side_levels => k_is)
    (case l_side_routes => k_is)
    (case c_side_routes => k_is)
    (case kp_side_routes => k_is)
    (case fn_Tree_init => k_is)
    (case l_Tree_init => k_is)
    (case c_Tree_init => k_is)
    (case lT_Tree_init => k_is)
    (case hoT_Tree_init => rfl)
    (case l__law_pull => k_is)
    (case c__law_pull => k_is)
    (case kp__law_pull => k_is)
    (case l__law_pick => k_is)
    (case c__law_pick => k_is)
    (case kp__law_pick => k_is)
    (case l__law_thing => k_is)
    (case c__law_thing => k_is)
    (case kp__law_thing => k_is)
    (case fn_Tree_str => k_is)
    (case l_Tree_str => k_is)
    (case c_Tree_str => k_is)
    (case l__law_side => k_is)
    (case c__law_side => k_is)
    (case kp__law_side => k_is)
    (case l__law_caught => k_is)
    (case c__law_caught => k_is)
    (case kp__law_caught => k_is)
    (case l__law_right => k_is)
    (case c__law_right => k_is)
    (case kp__law_right => k_is)
    (case l__law_stock => k_is)
    (case c__law_stock => k_is)
    (case kp__law_stock => k_is)
    (case l_law => k_is)
    (case c_law => k_is)
    (case kp_law => k_is)
    (case xl_InvalidTint => k_is)
    (case xs_InvalidTint => k_is)
    (case xe_InvalidTint => k_is)
    (case xy_InvalidTint => k_is)
    (case xk_InvalidTint => k_is)
    (case xt_InvalidTint => k_is)
    (case xn_InvalidTint_given => k_is)
    (case xl_NotATree => k_is)
    (case xs_NotATree => k_is)
    (case xe_NotATree => k_is)
    (case xy_NotATree => k_is)
    (case xk_NotATree => k_is)
    (case xt_NotATree => k_is)
    (case xn_NotATree_given => k_is)
    (case mk_Tree => k_is)
    (case kpc_Tree => k_is)
    (case xq_InvalidTint => k_is)
    (case xb_InvalidTint_InvalidTint => first | k_is | rfl)
    (case xb_NotATree_InvalidTint => first | k_is | rfl)
    (case xg_InvalidTint => k_is)
    (case xh_InvalidTint => k_is)
    (case xd_InvalidTint => k_is)
    (case xq_NotATree => k_is)
    (case xb_InvalidTint_NotATree => first | k_is | rfl)
    (case xb_NotATree_NotATree => first | k_is | rfl)
    (case xg_NotATree => k_is)
    (case xh_NotATree => k_is)
    (case xd_NotATree => k_is)
    (case g_LETTERS => k_is)
    (case ty_Tree => k_is)
    (case mr_str_Tree => k_is)
    (case n_Tree_depth => k_is)
    (case n_Tree_first => k_is)
    (case n_Tree_letter => k_is)
    (case n_Tree_line => k_is)
    (case n_Tree_nodes => k_is)
    (case n_Tree_routes => k_is)
    (case n_Tree_second => k_is)
    (case hcd__law_right => rfl)
    (case z_abs => k_is)
    (case z_all => k_is)
    (case z_divmod => k_is)
    (case z_int => k_is)
    (case z_isinstance => k_is)
    (case z_len => k_is)
    (case z_max => k_is)
    (case z_min => k_is)
    (case z_range => k_is)
    (case z_repr => k_is)
    (case z_str => k_is)
    (case z_tuple => k_is)
