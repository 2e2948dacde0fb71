import PyProof.Rows.All
import Wide.All
import OpenK.AllK
import Wide.FinOn
import HandS.ForMost
import HandS.Lambda
import HandS.Exc
import HandS.WordsExc
import HandS.Deep
import HandS.Zip
import HandS.Comp
import HandS.TupAny
import HandS.TupMul
import HandS.Style
import HandS.IsInst
import HandS.Conv
import HandS.SortInts
import HandS.Strs
import HandS.SetFor
import HandS.Flow
import PyProof.WalksMore
import HandS.SortRule
import KE.SortData
import HandS.HotCalls
import HandS.ExcIs
import HandS.EndTab
import KE.KNestM
import HandS.Nested
import KE.GoesEnum
import PySem.Challenge.RW_turntracks_k71_whole_told_lists
set_option Elab.async false
set_option linter.all false
set_option maxRecDepth 100000
namespace M
open PySem PySem.Spec PyProof.Rows L2

abbrev D := PyData
inductive R (α : Type) where
  | ok (a : α)
  | rz (c : Str)
  | bad
def R.bind {α β : Type} (r : R α) (f : α → R β) : R β := match r with
  | .ok a => f a
  | .rz c => .rz c
  | .bad => .bad
/-- the token that stands for the script -/
def SCR : D := .dict [(.none, .none)]

/-- a tuple of whose object it is known that it has no dict -/
def SqN (K : PySem.W.Frag) (G : Hp) (a : Addr) (xs : List V) : Prop := SqT K G a xs ∧ ((∃ o u, G a = some (.frz o u) ∧ o.cls = .type "tuple" ∧ o.dict = none) ∨ ∃ o, K.lookup a = some o ∧ o.cls = .type "tuple" ∧ o.dict = none)
/-- what a run knows from its start on: the script, and where the objects stand that have a number -/
structure Sc where
  l : List Int
  ad : Nat → Option Addr
/-- the token of the j-th object -/
abbrev OBJ (j : Nat) : D := .dict [(.bool false, .int j)]
mutual
inductive Q (K : PySem.W.Frag) (ns : Sc) (G : Hp) : V → D → Prop
  | non : Q K ns G .non .none
  | bl (b : Bool) : Q K ns G (.bl b) (.bool b)
  | int (i : Int) : Q K ns G (.int i) (.int i)
  | str (x : Str) : Q K ns G (.str x) (.str x)
  | lst {a : Addr} {xs : List V} {ds : List D} : G a = some (.lst xs) → QA K ns G xs ds → Q K ns G (.ref a) (.list ds)
  | tup {a : Addr} {xs : List V} {ds : List D} : SqT K G a xs → QA K ns G xs ds → Q K ns G (.ref a) (.tuple ds)
  | scr {a : Addr} : SqL K G a (ns.l.map V.int) → Q K ns G (.ref a) (.dict [(.none, .none)])
  | ntp {a : Addr} {ds : List D} (is : List Int) : SqN K G a (is.map V.int) → ds = is.map PyData.int → Q K ns G (.ref a) (.dict [(.bool true, .tuple ds)])
  | obj {a : Addr} {ds : List (D × D)} (j : Nat) : ns.ad j = some a → ds = [(.bool false, .int j)] → Q K ns G (.ref a) (.dict ds)
  | dk {a : Addr} {o : Obj} {ds : List (D × D)} (ks : List Int) : G a = some (.frz o (.dK (ks.map fun k => (Sum.inl k, V.bl true)))) → ds = ks.map (fun k => (.int k, .bool true)) → Q K ns G (.ref a) (.dict ds)
  | dt {a : Addr} {o : Obj} {ds : List (D × D)} (ks : List (List Int)) : G a = some (.frz o (.dT (ks.map fun k => (k.map Sum.inl, V.bl true)))) → ds = ks.map (fun k => (.tuple (k.map .int), .bool true)) → Q K ns G (.ref a) (.dict ds)
inductive QA (K : PySem.W.Frag) (ns : Sc) (G : Hp) : List V → List D → Prop
  | nil : QA K ns G [] []
  | cons {v : V} {vs : List V} {d : D} {ds : List D} : Q K ns G v d → QA K ns G vs ds → QA K ns G (v :: vs) (d :: ds)
end

theorem SqT.same {K : PySem.W.Frag} {H H' : Hp} {a : Addr} {xs : List V} (e : Same H H') (h : SqT K H a xs) : SqT K H' a xs := by
  rcases h with (h | ⟨o, h⟩) | h
  · exact .inl (.inl (e _ _ h))
  · exact .inl (.inr ⟨o, e _ _ h⟩)
  · exact .inr h

theorem SqN.same {K : PySem.W.Frag} {H H' : Hp} {a : Addr} {xs : List V} (e : Same H H') (h : SqN K H a xs) : SqN K H' a xs := by
  refine ⟨SqT.same e h.1, ?_⟩
  rcases h.2 with ⟨o, u, h1, h2⟩ | h
  · exact .inl ⟨o, u, e _ _ h1, h2⟩
  · exact .inr h
section
variable {K : PySem.W.Frag} {ns : Sc} {G G' : Hp}
mutual
theorem Q.mono (e : Same G G') : ∀ (d : D) (v : V), Q K ns G v d → Q K ns G' v d
  | .none, _, h => by cases h; exact .non
  | .bool _, _, h => by cases h; exact .bl _
  | .int _, _, h => by cases h; exact .int _
  | .str _, _, h => by cases h; exact .str _
  | .list ds, _, h => by cases h with | lst h1 h2 => exact .lst (e _ _ h1) (QA.mono e ds _ h2)
  | .tuple ds, _, h => by cases h with | tup h1 h2 => exact .tup (SqT.same e h1) (QA.mono e ds _ h2)
  | .dict _, _, h => by
    cases h with
    | scr h1 => exact .scr (e.seq h1)
    | ntp is h1 h2 => exact .ntp is (SqN.same e h1) h2
    | obj j h1 h2 => exact .obj j h1 h2
    | dk ks h1 h2 => exact .dk ks (e _ _ h1) h2
    | dt ks h1 h2 => exact .dt ks (e _ _ h1) h2
theorem QA.mono (e : Same G G') : ∀ (ds : List D) (vs : List V), QA K ns G vs ds → QA K ns G' vs ds
  | [], _, h => by cases h; exact .nil
  | d :: ds, _, h => by cases h with | cons h1 h2 => exact .cons (Q.mono e d _ h1) (QA.mono e ds _ h2)
end
theorem QA.length : ∀ {ds : List D} {vs : List V}, QA K ns G vs ds → vs.length = ds.length
  | [], _, h => by cases h; rfl
  | d :: ds, _, h => by cases h with | cons h1 h2 => simp [QA.length h2]
theorem QA.get : ∀ {ds : List D} {vs : List V} {i : Nat} {d : D}, QA K ns G vs ds → ds[i]? = some d → ∃ v, vs[i]? = some v ∧ Q K ns G v d
  | [], _, _, _, h, e => by simp at e
  | d :: ds, _, 0, _, h, e => by
    cases h with
    | cons h1 h2 => simp at e; subst e; exact ⟨_, rfl, h1⟩
  | d :: ds, _, i + 1, _, h, e => by
    cases h with
    | cons h1 h2 => exact QA.get (i := i) h2 (by simpa using e)
theorem QA.append : ∀ {ds es : List D} {vs us : List V}, QA K ns G vs ds → QA K ns G us es → QA K ns G (vs ++ us) (ds ++ es)
  | [], _, _, _, h, k => by cases h; exact k
  | d :: ds, _, _, _, h, k => by cases h with | cons h1 h2 => exact .cons h1 (QA.append h2 k)
theorem QA.drop : ∀ (n : Nat) {ds : List D} {vs : List V}, QA K ns G vs ds → QA K ns G (vs.drop n) (ds.drop n)
  | 0, _, _, h => h
  | n + 1, [], _, h => by cases h; exact .nil
  | n + 1, d :: ds, _, h => by cases h with | cons h1 h2 => exact QA.drop n h2
theorem QA.take : ∀ (n : Nat) {ds : List D} {vs : List V}, QA K ns G vs ds → QA K ns G (vs.take n) (ds.take n)
  | 0, _, _, h => .nil
  | n + 1, [], _, h => by cases h; exact .nil
  | n + 1, d :: ds, _, h => by cases h with | cons h1 h2 => exact .cons h1 (QA.take n h2)
theorem QA.set : ∀ (n : Nat) {ds : List D} {vs : List V} {v : V} {d : D}, QA K ns G vs ds → Q K ns G v d → QA K ns G (vs.set n v) (ds.set n d)
  | _, [], _, _, _, h, _ => by cases h; exact .nil
  | 0, d :: ds, _, _, _, h, k => by cases h with | cons h1 h2 => exact .cons k h2
  | n + 1, d :: ds, _, _, _, h, k => by cases h with | cons h1 h2 => exact .cons h1 (QA.set n h2 k)
theorem QA.rev {ds : List D} {vs : List V} (h : QA K ns G vs ds) : QA K ns G vs.reverse ds.reverse := by
  induction ds generalizing vs with
  | nil => cases h; exact .nil
  | cons d ds ih =>
    cases h with
    | cons h1 h2 =>
      rw [List.reverse_cons, List.reverse_cons]
      exact (ih h2).append (.cons h1 .nil)
theorem QA.ints {is : List Int} : QA K ns G (is.map V.int) (is.map PyData.int) := by
  induction is with
  | nil => exact .nil
  | cons i is ih => exact .cons (.int i) ih
end

/-! ### heaps -/
/-- what is frozen is there -/
def Sub (G H : Hp) : Prop := ∀ b o, G b = some o → H b = some o ∧ ∀ ps, o ≠ .tbl ps
/-- from which line on the law itself stands (0 is put in where the layer is joined) -/
def lawLine : Int := 0
/-- what the lambda at a place is called -/
def qof (p : Pos) : Str := if p.line < lawLine then "_law_done.<locals>.<lambda>" else "law.<locals>.<lambda>"
/-- the table at P: each code object that it tells bears the name of its place -/
def TabQ (H : Hp) (P : Addr) : Prop := ∃ ps : Array Value, H P = some (.tbl ps) ∧ TriplesOk ps.toList ∧ ∀ (pos : Pos) (cv : Value), codeAmong pos ps.toList = some cv → ∃ c, cv = .ref c ∧ H c = some (LamX.CodeO c (qof pos))
theorem TabQ.ext {H H' : Hp} {P : Addr} (t : TabQ H P) (e : ∀ b o, H b = some o → H' b = some o) : TabQ H' P := by
  obtain ⟨ps, h1, h2, h3⟩ := t
  exact ⟨ps, e _ _ h1, h2, fun pos cv hc => by
    obtain ⟨c, e1, e2⟩ := h3 pos cv hc
    exact ⟨c, e1, e _ _ e2⟩⟩
theorem TabQ.nil {H : Hp} {P : Addr} (h : H P = some (.tbl #[])) : TabQ H P := ⟨#[], h, True.intro, fun pos cv hc => by
  have z : codeAmong pos [] = some cv := hc
  simp [codeAmong] at z⟩
structure Ex (H H' : Hp) : Prop where
  keep : LamX.ExtN H H'
  tabs : ∀ T, TabQ H T → TabQ H' T
theorem Ex.of {H H' : Hp} (e : Same H H') : Ex H H' := ⟨LamX.ExtN.of e, fun _ t => t.ext e⟩
theorem Ex.refl (H : Hp) : Ex H H := .of (Same.refl H)
theorem Ex.trans {H H1 H2 : Hp} (a : Ex H H1) (b : Ex H1 H2) : Ex H H2 := ⟨a.keep.trans b.keep, fun T t => b.tabs T (a.tabs T t)⟩
theorem Sub.ex {G H H' : Hp} (s : Sub G H) (e : Ex H H') : Sub G H' := fun b o h => ⟨e.keep b o (s b o h).1 (s b o h).2, (s b o h).2⟩
theorem Sub.same {G H : Hp} (s : Sub G H) : Same G H := fun b o h => (s b o h).1
theorem Sub.free {G H : Hp} (s : Sub G H) {p : Addr} (h : H p = none) : G p = none := s.same.free h
theorem new_same {H : Hp} {p : Addr} {o : HO} (h : H p = none) : Same H (upd H p o) := fun b x e => by
  rw [upd_ne (ne_of_none e h)]
  exact e
structure Gr (G H G' H' : Hp) : Prop where
  g : Same G G'
  h : Ex H H'
  s : Sub G' H'
  n : ∀ a o, H a = some o → (∀ ps, o ≠ .tbl ps) → G a = none → G' a = none
theorem Gr.refl {G H : Hp} (s : Sub G H) : Gr G H G H := ⟨Same.refl G, Ex.refl H, s, fun _ _ _ _ h => h⟩
theorem Gr.trans {G H G1 H1 G2 H2 : Hp} (a : Gr G H G1 H1) (b : Gr G1 H1 G2 H2) : Gr G H G2 H2 :=
  ⟨a.g.trans b.g, a.h.trans b.h, b.s, fun x o hx ht gx => b.n x o (a.h.keep x o hx ht) ht (a.n x o hx ht gx)⟩
/-- a new object, frozen at once -/
theorem Gr.new {G H : Hp} {p : Addr} {o : HO} (s : Sub G H) (hp : H p = none) (ho : ∀ ps, o ≠ .tbl ps) : Gr G H (upd G p o) (upd H p o) :=
  ⟨new_same (s.free hp), .of (new_same hp), fun b u e => by
    by_cases hb : b = p
    · subst hb
      rw [upd_same] at e ⊢
      cases e
      exact ⟨rfl, ho⟩
    · rw [upd_ne hb] at e ⊢
      exact s b u e, fun a u ha _ ga => by rw [upd_ne (ne_of_none ha hp)]; exact ga⟩
/-- a new object, not frozen -/
theorem Gr.own {G H : Hp} {p : Addr} {o : HO} (s : Sub G H) (hp : H p = none) : Gr G H G (upd H p o) :=
  ⟨Same.refl G, .of (new_same hp), s.ex (.of (new_same hp)), fun _ _ _ _ ga => ga⟩
theorem nt_lst {xs : List V} (ps : Array Value) : HO.lst xs ≠ .tbl ps := fun z => nomatch z
theorem nt_tup {xs : List V} (ps : Array Value) : HO.tup xs ≠ .tbl ps := fun z => nomatch z

/-! ### slots -/
inductive Sl where
  | no
  | d (x : D)
  | o (xs : List D)
abbrev Rho := List Sl
structure Cm where
  ns : Sc
  G0 : Hp
  H0 : Hp
/-- not of those that stood at the entry -/
def Nw (H0 : Hp) (a : Addr) : Prop := ∀ o, H0 a = some o → (∀ ps, o ≠ .tbl ps) → False
section
variable (K : PySem.W.Frag) (c : Cm)
def SlOk (G H : Hp) : Sl → Option (Option V) → Prop
  | .no, _ => True
  | .d x, v => ∃ u, v = some (some u) ∧ Q K c.ns G u x
  | .o xs, v => ∃ a us, v = some (some (.ref a)) ∧ H a = some (.lst us) ∧ G a = none ∧ Nw c.H0 a ∧ QA K c.ns G us xs
structure Ok (G H : Hp) (ρ : Rho) (σ : L2.St) : Prop where
  s : Sub G H
  e : Gr c.G0 c.H0 G H
  len : ρ.length = σ.length
  sl : ∀ (i : Nat) (x : Sl), ρ[i]? = some x → SlOk K c G H x σ[i]?
  dj : ∀ (i j : Nat) (a : Addr) (xs ys : List D), ρ[i]? = some (.o xs) → ρ[j]? = some (.o ys) → σ[i]? = some (some (.ref a)) → σ[j]? = some (some (.ref a)) → i = j
end
section
variable {K : PySem.W.Frag} {c : Cm} {G H G' H' : Hp} {ρ : Rho} {σ : L2.St}
theorem SlOk.gr {x : Sl} {v : Option (Option V)} (h : SlOk K c G H x v) (g : Gr G H G' H') : SlOk K c G' H' x v := by
  cases x with
  | no => trivial
  | d x =>
    obtain ⟨u, e, q⟩ := h
    exact ⟨u, e, Q.mono g.g _ _ q⟩
  | o xs =>
    obtain ⟨a, us, e, ha, ga, h0, q⟩ := h
    exact ⟨a, us, e, g.h.keep a _ ha nt_lst, g.n a _ ha nt_lst ga, h0, QA.mono g.g _ _ q⟩
theorem Ok.gr (h : Ok K c G H ρ σ) (g : Gr G H G' H') : Ok K c G' H' ρ σ :=
  ⟨g.s, h.e.trans g, h.len, fun i x e => (h.sl i x e).gr g, h.dj⟩
theorem Ok.lt (h : Ok K c G H ρ σ) {i : Nat} {x : Sl} (e : ρ[i]? = some x) : i < σ.length := by
  rw [← h.len]
  exact (List.getElem?_eq_some_iff.mp e).1
/-- a slot takes data -/
theorem Ok.setD (h : Ok K c G H ρ σ) (i : Nat) {v : V} {d : D} (q : Q K c.ns G v d) : Ok K c G H (ρ.set i (.d d)) (σ.set i (some v)) := by
  refine ⟨h.s, h.e, by simp [h.len], fun j x e => ?_, fun j k a xs ys e1 e2 e3 e4 => ?_⟩
  · by_cases hj : i = j
    · subst hj
      by_cases hl : i < ρ.length
      · rw [List.getElem?_set_self hl] at e
        cases e
        rw [List.getElem?_set_self (by rw [← h.len]; exact hl)]
        exact ⟨v, rfl, q⟩
      · rw [List.getElem?_eq_none (by simp; omega)] at e
        cases e
    · rw [List.getElem?_set_ne hj] at e ⊢
      exact h.sl j x e
  · have n1 : i ≠ j := fun z => by
      subst z
      by_cases hl : i < ρ.length
      · rw [List.getElem?_set_self hl] at e1; cases e1
      · rw [List.getElem?_eq_none (by simp; omega)] at e1; cases e1
    have n2 : i ≠ k := fun z => by
      subst z
      by_cases hl : i < ρ.length
      · rw [List.getElem?_set_self hl] at e2; cases e2
      · rw [List.getElem?_eq_none (by simp; omega)] at e2; cases e2
    rw [List.getElem?_set_ne n1] at e1 e3
    rw [List.getElem?_set_ne n2] at e2 e4
    exact h.dj j k a xs ys e1 e2 e3 e4
/-- a slot takes a new list of its own -/
theorem Ok.setO (h : Ok K c G H ρ σ) (i : Nat) {p : Addr} {us : List V} {ds : List D} (hp : H p = none) (q : QA K c.ns G us ds) :
    Ok K c G (upd H p (.lst us)) (ρ.set i (.o ds)) (σ.set i (some (.ref p))) := by
  have hg : Gr G H G (upd H p (.lst us)) := Gr.own h.s hp
  have h1 := h.gr hg
  have h0 : Nw c.H0 p := fun o z ht => by
    rw [h.e.h.keep p o z ht] at hp
    cases hp
  refine ⟨h1.s, h1.e, by simp [h.len], fun j x e => ?_, fun j k a xs ys e1 e2 e3 e4 => ?_⟩
  · by_cases hj : i = j
    · subst hj
      by_cases hl : i < ρ.length
      · rw [List.getElem?_set_self hl] at e
        cases e
        rw [List.getElem?_set_self (by rw [← h.len]; exact hl)]
        exact ⟨p, us, rfl, upd_same, h.s.free hp, h0, q⟩
      · rw [List.getElem?_eq_none (by simp; omega)] at e
        cases e
    · rw [List.getElem?_set_ne hj] at e ⊢
      exact h1.sl j x e
  · have old : ∀ j xs a, i ≠ j → ρ[j]? = some (.o xs) → σ[j]? = some (some (.ref a)) → a ≠ p := fun j xs a _ e1 e2 z => by
      obtain ⟨b, us', e, hb, _⟩ := h.sl j _ e1
      rw [e2] at e
      cases e
      subst z
      rw [hp] at hb; cases hb
    by_cases hj : i = j
    · by_cases hk : i = k
      · omega
      · subst hj
        rw [List.getElem?_set_ne hk] at e2 e4
        have := old k ys a hk e2 e4
        by_cases hl : i < σ.length
        · rw [List.getElem?_set_self hl] at e3
          cases e3
          exact absurd rfl this
        · rw [List.getElem?_eq_none (by simp; omega)] at e3; cases e3
    · rw [List.getElem?_set_ne hj] at e1 e3
      by_cases hk : i = k
      · subst hk
        have := old j xs a hj e1 e3
        by_cases hl : i < σ.length
        · rw [List.getElem?_set_self hl] at e4
          cases e4
          exact absurd rfl this
        · rw [List.getElem?_eq_none (by simp; omega)] at e4; cases e4
      · rw [List.getElem?_set_ne hk] at e2 e4
        exact h.dj j k a xs ys e1 e2 e3 e4
end
end M

namespace M
open PySem PySem.Spec PyProof.Rows L2

theorem PE.imp {X : Cx} {e : Expr} {t t' : TE} (h : PE X e t) (i : ∀ σ H Q, t' σ H Q → t σ H Q) : PE X e t' := ⟨fun pins s σ H Q I hw => h.run pins s σ H Q I (i σ H Q hw)⟩
theorem PT.imp {X : Cx} {e : Expr} {t t' : TT} (h : PT X e t) (i : ∀ σ H Q, t' σ H Q → t σ H Q) : PT X e t' := ⟨fun pins s σ H Q I hw => h.run pins s σ H Q I (i σ H Q hw)⟩
theorem PW.imp {X : Cx} {e : Expr} {t t' : TT} (h : PW X e t) (i : ∀ σ H Q, t' σ H Q → t σ H Q) : PW X e t' := ⟨fun wh pins s σ H Q I hw => h.run wh pins s σ H Q I (i σ H Q hw)⟩
theorem PA.imp {X : Cx} {e : List Expr} {t t' : TA} (h : PA X e t) (i : ∀ σ H Q, t' σ H Q → t σ H Q) : PA X e t' := ⟨fun p pins s σ H Q I hw => h.run p pins s σ H Q I (i σ H Q hw)⟩
theorem PS.imp {X : Cx} {e : Stmt} {t t' : TS} (h : PS X e t) (i : ∀ D σ H, t' D σ H → t D σ H) : PS X e t' := ⟨fun pins s σ H Q I hw => h.run pins s σ H Q I (i Q σ H hw)⟩
theorem PSs.imp {X : Cx} {e : List Stmt} {t t' : TS} (h : PSs X e t) (i : ∀ D σ H, t' D σ H → t D σ H) : PSs X e t' := ⟨fun pins s σ H Q I hw => h.run pins s σ H Q I (i Q σ H hw)⟩

abbrev WM := Str → L2.St → Hp → Prop
/-- nothing may be raised -/
abbrev W0 : WM := fun _ _ _ => False

def B (K : PySem.W.Frag) (ns : Sc) (G H : Hp) (v : V) (d : D) : Prop := Q K ns G v d ∨ ∃ a us ds, v = .ref a ∧ d = .list ds ∧ H a = some (.lst us) ∧ QA K ns G us ds
inductive BA (K : PySem.W.Frag) (ns : Sc) (G H : Hp) : List V → List D → Prop
  | nil : BA K ns G H [] []
  | cons {v : V} {vs : List V} {d : D} {ds : List D} : B K ns G H v d → BA K ns G H vs ds → BA K ns G H (v :: vs) (d :: ds)
section
variable {K : PySem.W.Frag} {ns : Sc} {G H G' H' : Hp}
theorem B.gr {v : V} {d : D} (h : B K ns G H v d) (g : Gr G H G' H') : B K ns G' H' v d := by
  rcases h with h | ⟨a, us, ds, e1, e2, e3, e4⟩
  · exact .inl (Q.mono g.g _ _ h)
  · exact .inr ⟨a, us, ds, e1, e2, g.h.keep a _ e3 nt_lst, QA.mono g.g _ _ e4⟩
theorem BA.gr {vs : List V} {ds : List D} (h : BA K ns G H vs ds) (g : Gr G H G' H') : BA K ns G' H' vs ds := by
  induction h with
  | nil => exact .nil
  | cons h _ ih => exact .cons (h.gr g) ih
theorem B.int {v : V} {i : Int} (h : B K ns G H v (.int i)) : v = .int i := by
  rcases h with h | ⟨a, us, ds, e1, e2, _⟩
  · cases h; rfl
  · cases e2
theorem B.bool {v : V} {b : Bool} (h : B K ns G H v (.bool b)) : v = .bl b := by
  rcases h with h | ⟨a, us, ds, e1, e2, _⟩
  · cases h; rfl
  · cases e2
theorem B.str {v : V} {x : Str} (h : B K ns G H v (.str x)) : v = .str x := by
  rcases h with h | ⟨a, us, ds, e1, e2, _⟩
  · cases h; rfl
  · cases e2
theorem B.none {v : V} (h : B K ns G H v .none) : v = .non := by
  rcases h with h | ⟨a, us, ds, e1, e2, _⟩
  · cases h; rfl
  · cases e2
theorem B.list {v : V} {ds : List D} (s : Sub G H) (h : B K ns G H v (.list ds)) : ∃ a us, v = .ref a ∧ H a = some (.lst us) ∧ QA K ns G us ds := by
  rcases h with h | ⟨a, us, ds', e1, e2, e3, e4⟩
  · cases h with | lst h1 h2 => exact ⟨_, _, rfl, (s _ _ h1).1, h2⟩
  · cases e2; exact ⟨a, us, e1, e3, e4⟩
theorem B.tuple {v : V} {ds : List D} (s : Sub G H) (h : B K ns G H v (.tuple ds)) : ∃ a us, v = .ref a ∧ SqT K H a us ∧ QA K ns G us ds ∧ SqT K G a us := by
  rcases h with h | ⟨a, us, ds', e1, e2, e3, e4⟩
  · cases h with | tup h1 h2 => exact ⟨_, _, rfl, SqT.same s.same h1, h2, h1⟩
  · cases e2
end

section
variable (K : PySem.W.Frag) (c : Cm) (W : WM)
def Post {α β : Type} (Rel : Hp → Hp → β → α → Prop) (G H : Hp) (σ : L2.St) (Qk : β → Hp → Prop) : R α → Prop
  | .ok a => ∀ G' H' v, Gr G H G' H' → Rel G' H' v a → Qk v H'
  | .rz z => ∀ G' H', Gr G H G' H' → W z σ H'
  | .bad => False
def tR {α β : Type} (Rel : Hp → Hp → β → α → Prop) (f : Rho → R α) : L2.St → Hp → (β → Hp → Prop) → Prop := fun σ H Qk => ∃ G ρ, Ok K c G H ρ σ ∧ Post W Rel G H σ Qk (f ρ)
end
abbrev RelQ (K : PySem.W.Frag) (ns : Sc) : Hp → Hp → V → D → Prop := fun G _ v d => Q K ns G v d
abbrev RelB (K : PySem.W.Frag) (ns : Sc) : Hp → Hp → V → D → Prop := fun G H v d => B K ns G H v d
abbrev RelQA (K : PySem.W.Frag) (ns : Sc) : Hp → Hp → List V → List D → Prop := fun G _ v d => QA K ns G v d
abbrev RelBA (K : PySem.W.Frag) (ns : Sc) : Hp → Hp → List V → List D → Prop := fun G H v d => BA K ns G H v d
abbrev RelT : Hp → Hp → Bool → Bool → Prop := fun _ _ b b' => b = b'
abbrev ME (X : Cx) (c : Cm) (W : WM) (e : Expr) (f : Rho → R D) : Prop := PE X e (tR X.K c W (RelQ X.K c.ns) f)
abbrev MB (X : Cx) (c : Cm) (W : WM) (e : Expr) (f : Rho → R D) : Prop := PE X e (tR X.K c W (RelB X.K c.ns) f)
abbrev MA (X : Cx) (c : Cm) (W : WM) (e : List Expr) (f : Rho → R (List D)) : Prop := PA X e (tR X.K c W (RelQA X.K c.ns) f)
abbrev MBA (X : Cx) (c : Cm) (W : WM) (e : List Expr) (f : Rho → R (List D)) : Prop := PA X e (tR X.K c W (RelBA X.K c.ns) f)
abbrev MT (X : Cx) (c : Cm) (W : WM) (e : Expr) (f : Rho → R Bool) : Prop := PT X e (tR X.K c W RelT f)
abbrev MW (X : Cx) (c : Cm) (W : WM) (e : Expr) (f : Rho → R Bool) : Prop := PW X e (tR X.K c W RelT f)

section
variable {K : PySem.W.Frag} {c : Cm} {W : WM} {G H G' H' : Hp} {σ : L2.St} {ρ : Rho} {α β γ δ : Type} {Rel : Hp → Hp → β → α → Prop} {Rel2 : Hp → Hp → δ → γ → Prop}
theorem Post.gr {Qk : β → Hp → Prop} {r : R α} (h : Post W Rel G H σ Qk r) (g : Gr G H G' H') : Post W Rel G' H' σ Qk r := by
  cases r with
  | ok a => exact fun G2 H2 v g2 q => h G2 H2 v (g.trans g2) q
  | rz z => exact fun G2 H2 g2 => h G2 H2 (g.trans g2)
  | bad => exact h
theorem step {f : Rho → R α} {F : α → R γ} {Qk : δ → Hp → Prop} {k : β → Hp → Prop} (ok : Ok K c G H ρ σ) (h : Post W Rel2 G H σ Qk ((f ρ).bind F))
    (hk : ∀ a G' H' v, f ρ = .ok a → Gr G H G' H' → Rel G' H' v a → Ok K c G' H' ρ σ → Post W Rel2 G' H' σ Qk (F a) → k v H') : tR K c W Rel f σ H k := by
  refine ⟨G, ρ, ok, ?_⟩
  cases e : f ρ with
  | ok a =>
    rw [e] at h
    exact fun G' H' v g r => hk a G' H' v e g r (ok.gr g) (Post.gr (r := F a) h g)
  | rz z => rw [e] at h; exact h
  | bad => rw [e] at h; exact h.elim
/-- the last one, handing on its answer -/
theorem stepL {f : Rho → R α} {Qk : δ → Hp → Prop} {k : β → Hp → Prop} {T : α → γ} (ok : Ok K c G H ρ σ) (h : Post W Rel2 G H σ Qk ((f ρ).bind fun a => .ok (T a)))
    (hk : ∀ a G' H' v, f ρ = .ok a → Gr G H G' H' → Rel G' H' v a → Ok K c G' H' ρ σ → (∀ u, Rel2 G' H' u (T a) → Qk u H') → k v H') : tR K c W Rel f σ H k :=
  step ok h fun a G' H' v e g r ok' h' => hk a G' H' v e g r ok' fun u ru => h' G' H' u (Gr.refl ok'.s) ru
end

/-! ### names, constants -/
def nm (i : Nat) : Rho → R D := fun ρ => match ρ[i]? with
  | some (.d x) => .ok x
  | _ => .bad
def bnm (i : Nat) : Rho → R D := fun ρ => match ρ[i]? with
  | some (.d x) => .ok x
  | some (.o xs) => .ok (.list xs)
  | _ => .bad
def cst {α : Type} (x : α) : Rho → R α := fun _ => .ok x
def R.of {α : Type} : Option α → R α
  | some a => .ok a
  | none => .bad
section
variable {X : Cx} {c : Cm} {W : WM}
theorem me_name (i : Nat) {e : Expr} (h : PE X e (tVar i)) : ME X c W e (nm i) := PE.imp h fun σ H Qk ⟨G, ρ, ok, p⟩ => by
  unfold nm at p
  cases e1 : ρ[i]? with
  | none => rw [e1] at p; exact p.elim
  | some x =>
    cases x with
    | no => rw [e1] at p; exact p.elim
    | o xs => rw [e1] at p; exact p.elim
    | d x =>
      rw [e1] at p
      obtain ⟨u, e2, q⟩ := ok.sl i _ e1
      exact ⟨u, e2, p G H u (Gr.refl ok.s) q⟩
theorem mb_name (i : Nat) {e : Expr} (h : PE X e (tVar i)) : MB X c W e (bnm i) := PE.imp h fun σ H Qk ⟨G, ρ, ok, p⟩ => by
  unfold bnm at p
  cases e1 : ρ[i]? with
  | none => rw [e1] at p; exact p.elim
  | some x =>
    cases x with
    | no => rw [e1] at p; exact p.elim
    | o xs =>
      rw [e1] at p
      obtain ⟨a, us, e2, ha, _, _, q⟩ := ok.sl i _ e1
      exact ⟨_, e2, p G H _ (Gr.refl ok.s) (.inr ⟨a, us, xs, rfl, rfl, ha, q⟩)⟩
    | d x =>
      rw [e1] at p
      obtain ⟨u, e2, q⟩ := ok.sl i _ e1
      exact ⟨u, e2, p G H u (Gr.refl ok.s) (.inl q)⟩
theorem mb {e : Expr} {f : Rho → R D} (h : ME X c W e f) : MB X c W e f := PE.imp h fun σ H Qk ⟨G, ρ, ok, p⟩ => ⟨G, ρ, ok, by
  cases e : f ρ with
  | ok a => rw [e] at p; exact fun G' H' v g q => p G' H' v g (.inl q)
  | rz z => rw [e] at p; exact p
  | bad => rw [e] at p; exact p⟩
theorem me_cst {e : Expr} {v : V} {d : D} (h : PE X e (tC v)) (q : ∀ G, Q X.K c.ns G v d) : ME X c W e (cst d) := PE.imp h fun σ H Qk ⟨G, ρ, ok, p⟩ => p G H v (Gr.refl ok.s) (q G)
theorem me_int {i j pos} : ME X c W (.Constant (.int i) j pos) (cst (.int i)) := me_cst pe_int fun _ => .int i
theorem me_bl {b j pos} : ME X c W (.Constant (.bool b) j pos) (cst (.bool b)) := me_cst pe_bl fun _ => .bl b
theorem me_non {j pos} : ME X c W (.Constant .none j pos) (cst .none) := me_cst pe_non fun _ => .non
theorem me_str {x j pos} : ME X c W (.Constant (.str x) j pos) (cst (.str x)) := me_cst pe_str fun _ => .str x

/-! ### operators -/
def e2 {α β γ : Type} (o : α → β → Option γ) (f : Rho → R α) (g : Rho → R β) : Rho → R γ := fun ρ => (f ρ).bind fun x => (g ρ).bind fun y => R.of (o x y)
def e1 {α β : Type} (o : α → Option β) (f : Rho → R α) : Rho → R β := fun ρ => (f ρ).bind fun x => R.of (o x)
def OpD (X : Cx) (ns : Sc) (r : R2) (o : D → D → Option D) : Prop := ∀ (G H : Hp) (v w : V) (x y d : D) (Qk : VK), o x y = some d → Sub G H → B X.K ns G H v x → B X.K ns G H w y → (∀ G' H' u, Gr G H G' H' → Q X.K ns G' u d → Qk u H') → r v w H Qk
def CmD (X : Cx) (ns : Sc) (r : R2) (o : D → D → Option Bool) : Prop := ∀ (G H : Hp) (v w : V) (x y : D) (b : Bool) (Qk : VK), o x y = some b → Sub G H → B X.K ns G H v x → B X.K ns G H w y → (∀ G' H', Gr G H G' H' → Qk (.bl b) H') → r v w H Qk
theorem me_op {op : Operator} {r : R2} {o : D → D → Option D} {a b : Expr} {f g : Rho → R D} {pos : Pos} (ho : OpR X (binaryOp op) r) (hr : OpD X c.ns r o) (ha : MB X c W a f) (hb : MB X c W b g) : ME X c W (.BinOp a op b pos) (e2 o f g) :=
  PE.imp (pe_op ho ha hb) fun σ H Qk ⟨G, ρ, ok, p⟩ => step ok p fun x G1 H1 v _ g1 r1 ok1 p1 => step ok1 p1 fun y G2 H2 w _ g2 r2 ok2 p2 => by
    cases e : o x y with
    | none => rw [e] at p2; exact p2.elim
    | some d =>
      rw [e] at p2
      exact hr G2 H2 v w x y d Qk e ok2.s (r1.gr g2) r2 p2
theorem me_ix {r : R2} {o : D → D → Option D} {a b : Expr} {f g : Rho → R D} {pos : Pos} (ho : IxR X r) (hr : OpD X c.ns r o) (ha : MB X c W a f) (hb : MB X c W b g) (hs : PlainIx b) : ME X c W (.Subscript a b pos) (e2 o f g) :=
  PE.imp (pe_ix ho ha hb hs) fun σ H Qk ⟨G, ρ, ok, p⟩ => step ok p fun x G1 H1 v _ g1 r1 ok1 p1 => step ok1 p1 fun y G2 H2 w _ g2 r2 ok2 p2 => by
    cases e : o x y with
    | none => rw [e] at p2; exact p2.elim
    | some d =>
      rw [e] at p2
      exact hr G2 H2 v w x y d Qk e ok2.s (r1.gr g2) r2 p2
theorem mt_cmp {op : CmpOp} {r : R2} {o : D → D → Option Bool} {a b : Expr} {f g : Rho → R D} {pos : Pos} (ho : OpR X (compareOp op) r) (hr : CmD X c.ns r o) (ha : MB X c W a f) (hb : MB X c W b g) (hm : behindInMarks op b = false) : MT X c W (.Compare a [op] [b] pos) (e2 o f g) :=
  PT.imp (pt_cmpR ho ha hb hm) fun σ H Qk ⟨G, ρ, ok, p⟩ => step ok p fun x G1 H1 v _ g1 r1 ok1 p1 => step ok1 p1 fun y G2 H2 w _ g2 r2 ok2 p2 => by
    cases e : o x y with
    | none => rw [e] at p2; exact p2.elim
    | some d =>
      rw [e] at p2
      exact hr G2 H2 v w x y d _ e ok2.s (r1.gr g2) r2 fun G' H' g' => ⟨d, rfl, p2 G' H' d g' rfl⟩
/-- a truth as a value -/
def bv (f : Rho → R Bool) : Rho → R D := fun ρ => (f ρ).bind fun b => .ok (.bool b)
theorem me_cmp {op : CmpOp} {r : R2} {o : D → D → Option Bool} {a b : Expr} {f g : Rho → R D} {pos : Pos} (ho : OpR X (compareOp op) r) (hr : CmD X c.ns r o) (ha : MB X c W a f) (hb : MB X c W b g) (hm : behindInMarks op b = false) : ME X c W (.Compare a [op] [b] pos) (bv (e2 o f g)) :=
  PE.imp (pe_cmpR ho ha hb hm) fun σ H Qk ⟨G, ρ, ok, p⟩ => by
    have p' : Post W (RelQ X.K c.ns) G H σ Qk ((f ρ).bind fun x => (g ρ).bind fun y => (R.of (o x y)).bind fun b => .ok (.bool b)) := by
      have e : bv (e2 o f g) ρ = ((f ρ).bind fun x => (g ρ).bind fun y => (R.of (o x y)).bind fun b => .ok (.bool b)) := by
        unfold bv e2
        cases f ρ with
        | ok x => cases g ρ <;> rfl
        | rz _ => rfl
        | bad => rfl
      rw [← e]
      exact p
    exact step ok p' fun x G1 H1 v _ g1 r1 ok1 p1 => step ok1 p1 fun y G2 H2 w _ g2 r2 ok2 p2 => by
      cases e : o x y with
      | none => rw [e] at p2; exact p2.elim
      | some d =>
        rw [e] at p2
        exact hr G2 H2 v w x y d _ e ok2.s (r1.gr g2) r2 fun G' H' g' => p2 G' H' _ g' (.bl d)

/-! ### truth -/
def asB : D → Option Bool
  | .bool b => some b
  | _ => none
/-- an expression that gives True or False, as a test -/
theorem mt_val {e : Expr} {f : Rho → R D} (h : MB X c W e f) (he : ∀ whole, isTrue e X.env whole = (do let v ← whole; standAt e.pos; holding [v] (truthy v)) := by intro _; rfl) : MT X c W e (e1 asB f) :=
  PT.imp (pt_val h he) fun σ H Qk ⟨G, ρ, ok, p⟩ => step ok p fun x G1 H1 v _ g1 r1 ok1 p1 => by
    cases x with
    | bool b =>
      obtain rfl := r1.bool
      exact ⟨b, rfl, p1 G1 H1 b (Gr.refl ok1.s) rfl⟩
    | _ => exact p1.elim
def andT (f g : Rho → R Bool) : Rho → R Bool := fun ρ => (f ρ).bind fun b => if b then g ρ else .ok false
def orT (f g : Rho → R Bool) : Rho → R Bool := fun ρ => (f ρ).bind fun b => if b then .ok true else g ρ
def notT (f : Rho → R Bool) : Rho → R Bool := fun ρ => (f ρ).bind fun b => .ok (!b)
theorem post_same {β α : Type} {Rel : Hp → Hp → β → α → Prop} {G H : Hp} {σ : L2.St} {Qk : β → Hp → Prop} {f : Rho → R α} {ρ : Rho} (ok : Ok X.K c G H ρ σ) (h : Post W Rel G H σ Qk (f ρ)) : tR X.K c W Rel f σ H Qk := ⟨G, ρ, ok, h⟩
theorem mw_and1 {a : Expr} {pos : Pos} {f : Rho → R Bool} (h : MT X c W a f) : MW X c W (.BoolOp .And [a] pos) f := pw_and1 h
theorem mw_or1 {a : Expr} {pos : Pos} {f : Rho → R Bool} (h : MT X c W a f) : MW X c W (.BoolOp .Or [a] pos) f := pw_or1 h
theorem mw_and {a b : Expr} {rest : List Expr} {pos : Pos} {f g : Rho → R Bool} (ha : MT X c W a f) (hb : MW X c W (.BoolOp .And (b :: rest) pos) g) : MW X c W (.BoolOp .And (a :: b :: rest) pos) (andT f g) :=
  PW.imp (pw_and ha hb) fun σ H Qk ⟨G, ρ, ok, p⟩ => step ok p fun x G1 H1 v _ g1 r1 ok1 p1 => by
    subst r1
    cases v with
    | true => exact post_same ok1 p1
    | false => exact p1 G1 H1 false (Gr.refl ok1.s) rfl
theorem mw_or {a b : Expr} {rest : List Expr} {pos : Pos} {f g : Rho → R Bool} (ha : MT X c W a f) (hb : MW X c W (.BoolOp .Or (b :: rest) pos) g) : MW X c W (.BoolOp .Or (a :: b :: rest) pos) (orT f g) :=
  PW.imp (pw_or ha hb) fun σ H Qk ⟨G, ρ, ok, p⟩ => step ok p fun x G1 H1 v _ g1 r1 ok1 p1 => by
    subst r1
    cases v with
    | false => exact post_same ok1 p1
    | true => exact p1 G1 H1 true (Gr.refl ok1.s) rfl
theorem mt_w {e : Expr} {f : Rho → R Bool} (h : MW X c W e f) : MT X c W e f := PW.pt h
theorem mt_not {a : Expr} {pos : Pos} {f : Rho → R Bool} (ha : MT X c W a f) : MT X c W (.UnaryOp .Not a pos) (notT f) :=
  PT.imp (pt_not ha) fun σ H Qk ⟨G, ρ, ok, p⟩ => step ok p fun x G1 H1 v _ g1 r1 ok1 p1 => by
    subst r1
    exact p1 G1 H1 _ (Gr.refl ok1.s) rfl
/-- .. as values; all but the last True or False -/
def andV (f g : Rho → R D) : Rho → R D := fun ρ => (f ρ).bind fun x => match x with
  | .bool true => g ρ
  | .bool false => .ok (.bool false)
  | _ => .bad
def orV (f g : Rho → R D) : Rho → R D := fun ρ => (f ρ).bind fun x => match x with
  | .bool true => .ok (.bool true)
  | .bool false => g ρ
  | _ => .bad
def notV (f : Rho → R D) : Rho → R D := fun ρ => (f ρ).bind fun x => match x with
  | .bool b => .ok (.bool !b)
  | _ => .bad
theorem me_one {op} {a : Expr} {pos : Pos} {f : Rho → R D} (h : ME X c W a f) : ME X c W (.BoolOp op [a] pos) f := pe_one h
theorem me_and {a b : Expr} {rest : List Expr} {pos : Pos} {f g : Rho → R D} (ha : MB X c W a f) (hb : ME X c W (.BoolOp .And (b :: rest) pos) g) : ME X c W (.BoolOp .And (a :: b :: rest) pos) (andV f g) :=
  PE.imp (pe_and ha hb) fun σ H Qk ⟨G, ρ, ok, p⟩ => step ok p fun x G1 H1 v _ g1 r1 ok1 p1 => by
    cases x with
    | bool b =>
      obtain rfl := r1.bool
      refine ⟨b, rfl, ?_⟩
      cases b with
      | true => exact post_same ok1 p1
      | false => exact p1 G1 H1 _ (Gr.refl ok1.s) (.bl false)
    | _ => exact p1.elim
theorem me_or {a b : Expr} {rest : List Expr} {pos : Pos} {f g : Rho → R D} (ha : MB X c W a f) (hb : ME X c W (.BoolOp .Or (b :: rest) pos) g) : ME X c W (.BoolOp .Or (a :: b :: rest) pos) (orV f g) :=
  PE.imp (pe_or ha hb) fun σ H Qk ⟨G, ρ, ok, p⟩ => step ok p fun x G1 H1 v _ g1 r1 ok1 p1 => by
    cases x with
    | bool b =>
      obtain rfl := r1.bool
      refine ⟨b, rfl, ?_⟩
      cases b with
      | false => exact post_same ok1 p1
      | true => exact p1 G1 H1 _ (Gr.refl ok1.s) (.bl true)
    | _ => exact p1.elim
theorem me_not {a : Expr} {pos : Pos} {f : Rho → R D} (ha : MB X c W a f) : ME X c W (.UnaryOp .Not a pos) (notV f) :=
  PE.imp (pe_not ha) fun σ H Qk ⟨G, ρ, ok, p⟩ => step ok p fun x G1 H1 v _ g1 r1 ok1 p1 => by
    cases x with
    | bool b =>
      obtain rfl := r1.bool
      exact ⟨b, rfl, p1 G1 H1 _ (Gr.refl ok1.s) (.bl _)⟩
    | _ => exact p1.elim
def ifE {α : Type} (t : Rho → R Bool) (f g : Rho → R α) : Rho → R α := fun ρ => (t ρ).bind fun b => if b then f ρ else g ρ
theorem me_if {t a b : Expr} {pos : Pos} {ft : Rho → R Bool} {f g : Rho → R D} (ht : MT X c W t ft) (ha : ME X c W a f) (hb : ME X c W b g) : ME X c W (.IfExp t a b pos) (ifE ft f g) :=
  PE.imp (pe_ifExp ht ha hb) fun σ H Qk ⟨G, ρ, ok, p⟩ => step ok p fun x G1 H1 v _ g1 r1 ok1 p1 => by
    subst r1
    cases v with
    | true => exact post_same ok1 p1
    | false => exact post_same ok1 p1
theorem mb_if {t a b : Expr} {pos : Pos} {ft : Rho → R Bool} {f g : Rho → R D} (ht : MT X c W t ft) (ha : MB X c W a f) (hb : MB X c W b g) : MB X c W (.IfExp t a b pos) (ifE ft f g) :=
  PE.imp (pe_ifExp ht ha hb) fun σ H Qk ⟨G, ρ, ok, p⟩ => step ok p fun x G1 H1 v _ g1 r1 ok1 p1 => by
    subst r1
    cases v with
    | true => exact post_same ok1 p1
    | false => exact post_same ok1 p1
/-! ### argument lists, displays -/
def cons' (f : Rho → R D) (g : Rho → R (List D)) : Rho → R (List D) := fun ρ => (f ρ).bind fun x => (g ρ).bind fun xs => .ok (x :: xs)
theorem ma_nil : MA X c W [] (cst []) := PA.imp pa_nil fun σ H Qk ⟨G, ρ, ok, p⟩ => p G H [] (Gr.refl ok.s) .nil
theorem mba_nil : MBA X c W [] (cst []) := PA.imp pa_nil fun σ H Qk ⟨G, ρ, ok, p⟩ => p G H [] (Gr.refl ok.s) .nil
theorem ma_cons {e : Expr} {es : List Expr} {f : Rho → R D} {g : Rho → R (List D)} (ha : ME X c W e f) (hr : MA X c W es g) (hs : starEach (e :: es) X.env = (false, eval e X.env) :: starEach es X.env := by rfl) : MA X c W (e :: es) (cons' f g) :=
  PA.imp (pa_cons ha hr hs) fun σ H Qk ⟨G, ρ, ok, p⟩ => step ok p fun x G1 H1 v _ g1 r1 ok1 p1 => step ok1 p1 fun y G2 H2 w _ g2 r2 ok2 p2 =>
    p2 G2 H2 _ (Gr.refl ok2.s) (.cons (Q.mono g2.g _ _ r1) r2)
theorem mba_cons {e : Expr} {es : List Expr} {f : Rho → R D} {g : Rho → R (List D)} (ha : MB X c W e f) (hr : MBA X c W es g) (hs : starEach (e :: es) X.env = (false, eval e X.env) :: starEach es X.env := by rfl) : MBA X c W (e :: es) (cons' f g) :=
  PA.imp (pa_cons ha hr hs) fun σ H Qk ⟨G, ρ, ok, p⟩ => step ok p fun x G1 H1 v _ g1 r1 ok1 p1 => step ok1 p1 fun y G2 H2 w _ g2 r2 ok2 p2 =>
    p2 G2 H2 _ (Gr.refl ok2.s) (.cons (r1.gr g2) r2)
def tupE (g : Rho → R (List D)) : Rho → R D := fun ρ => (g ρ).bind fun xs => if xs.length ≤ 1000000 then .ok (.tuple xs) else .bad
def lstE (g : Rho → R (List D)) : Rho → R D := fun ρ => (g ρ).bind fun xs => if xs.length ≤ 1000000 then .ok (.list xs) else .bad
theorem sz {n : Nat} (h : n ≤ 1000000) : n ≤ sizeLine := Nat.le_trans h (by decide)
theorem szl {n : Nat} (h : n < 1000000) : n < sizeLine := Nat.lt_of_lt_of_le h (by decide)
theorem me_tup {es : List Expr} {k : Nat} {pos : Pos} {g : Rho → R (List D)} (h : MA X c W es g) : ME X c W (.Tuple es k pos) (tupE g) :=
  PE.imp (pe_tup h) fun σ H Qk ⟨G, ρ, ok, p⟩ => step ok p fun xs G1 H1 vs _ g1 r1 ok1 p1 => by
    by_cases hl : xs.length ≤ 1000000
    · rw [if_pos hl] at p1
      exact ⟨by rw [r1.length]; exact sz hl, fun q hq => p1 _ _ _ (Gr.new ok1.s hq nt_tup) (.tup (.inl (.inl upd_same)) (QA.mono (new_same (ok1.s.free hq)) _ _ r1))⟩
    · rw [if_neg hl] at p1; exact p1.elim
theorem me_lst {es : List Expr} {pos : Pos} {g : Rho → R (List D)} (h : MA X c W es g) : ME X c W (.List es pos) (lstE g) :=
  PE.imp (pe_lst h) fun σ H Qk ⟨G, ρ, ok, p⟩ => step ok p fun xs G1 H1 vs _ g1 r1 ok1 p1 => by
    by_cases hl : xs.length ≤ 1000000
    · rw [if_pos hl] at p1
      exact ⟨by rw [r1.length]; exact sz hl, fun q hq => p1 _ _ _ (Gr.new ok1.s hq nt_lst) (.lst upd_same (QA.mono (new_same (ok1.s.free hq)) _ _ r1))⟩
    · rw [if_neg hl] at p1; exact p1.elim
/-! ### calls of built-ins -/
def CaD (X : Cx) (ns : Sc) (r : List V → Hp → VK → Prop) (o : List D → Option D) : Prop := ∀ (G H : Hp) (vs : List V) (ds : List D) (d : D) (Qk : VK), o ds = some d → Sub G H → BA X.K ns G H vs ds → (∀ G' H' u, Gr G H G' H' → Q X.K ns G' u d → Qk u H') → r vs H Qk
theorem me_callB {id : String} {r : List V → Hp → VK → Prop} {o : List D → Option D} {x : Str} {e : Expr} {es : List Expr} {g : Rho → R (List D)} {p pos : Pos} (hc : CallR X (.builtin id) r) (hr : CaD X c.ns r o) (hg : Gl X x) (hm : X.mg x = none) (hv : bootBuiltins x = some (.builtin id)) (ha : MBA X c W (e :: es) g)
    (hn : x ≠ "__name__" := by decide) (hdb : (x == ("__debug__" : Str)) = false := by decide) (he : starEach (e :: es) X.env = (false, eval e X.env) :: starEach es X.env := by rfl) (hpl : (backTo pos (starEach es X.env)).any (·.1) = false := by rfl) :
    ME X c W (.Call (.Name x p) (e :: es) [] pos) (e1 o g) :=
  PE.imp (pe_callB hc hg hm hv ha hn hdb he hpl) fun σ H Qk ⟨G, ρ, ok, p⟩ => step ok p fun xs G1 H1 vs _ g1 r1 ok1 p1 => by
    cases e : o xs with
    | none => rw [e] at p1; exact p1.elim
    | some d =>
      rw [e] at p1
      exact hr G1 H1 vs xs d Qk e ok1.s r1 p1
theorem me_callTy {T : String} {r : List V → Hp → VK → Prop} {o : List D → Option D} {x : Str} {e : Expr} {es : List Expr} {g : Rho → R (List D)} {p pos : Pos} (hc : CallR X (.type T) r) (hr : CaD X c.ns r o) (hg : Gl X x) (hm : X.mg x = none) (hv : bootBuiltins x = some (.type T)) (ha : MBA X c W (e :: es) g)
    (hn : x ≠ "__name__" := by decide) (hdb : (x == ("__debug__" : Str)) = false := by decide) (he : starEach (e :: es) X.env = (false, eval e X.env) :: starEach es X.env := by rfl) (hpl : (backTo pos (starEach es X.env)).any (·.1) = false := by rfl) :
    ME X c W (.Call (.Name x p) (e :: es) [] pos) (e1 o g) :=
  PE.imp (pe_callTy hc hg hm hv ha hn hdb he hpl) fun σ H Qk ⟨G, ρ, ok, p⟩ => step ok p fun xs G1 H1 vs _ g1 r1 ok1 p1 => by
    cases e : o xs with
    | none => rw [e] at p1; exact p1.elim
    | some d =>
      rw [e] at p1
      exact hr G1 H1 vs xs d Qk e ok1.s r1 p1
end
end M

namespace M
open PySem PySem.Spec PyProof.Rows L2

theorem Nw.of {H H' : Hp} {a : Addr} (e : Ex H H') (n : Nw H' a) : Nw H a := fun o h t => n o (e.keep a o h t) t
theorem Nw.none {H : Hp} {a : Addr} (h : H a = none) : Nw H a := fun o e _ => by rw [h] at e; cases e
theorem Nw.ne {H : Hp} {a b : Addr} {us : List V} (n : Nw H a) (h : H b = some (.lst us)) : b ≠ a := fun e => by
  subst e
  exact n _ h nt_lst

/-! ### slots are set -/
/-- what a slot may take: data, or a list that no other slot has -/
def NwSl (K : PySem.W.Frag) (c : Cm) (H0 G H : Hp) (v : V) : Sl → Prop
  | .no => True
  | .d x => Q K c.ns G v x
  | .o xs => ∃ a us, v = .ref a ∧ H a = some (.lst us) ∧ G a = none ∧ Nw H0 a ∧ QA K c.ns G us xs
theorem getset {α : Type} {l : List α} {i j : Nat} {x y : α} (h : (l.set i x)[j]? = some y) : (i = j ∧ x = y ∧ i < l.length) ∨ (i ≠ j ∧ l[j]? = some y) := by
  by_cases hj : i = j
  · subst hj
    by_cases hl : i < l.length
    · rw [List.getElem?_set_self hl] at h
      exact .inl ⟨rfl, Option.some.inj h, hl⟩
    · rw [List.getElem?_eq_none (by simp; omega)] at h
      cases h
  · rw [List.getElem?_set_ne hj] at h
    exact .inr ⟨hj, h⟩
section
variable {K : PySem.W.Frag} {c : Cm} {G H G' H' : Hp} {ρ : Rho} {σ : L2.St}
theorem NwSl.gr {Hp0 : Hp} {v : V} {s : Sl} (h : NwSl K c Hp0 G H v s) (g : Gr G H G' H') : NwSl K c Hp0 G' H' v s := by
  cases s with
  | no => trivial
  | d x => exact Q.mono g.g _ _ h
  | o xs =>
    obtain ⟨a, us, e, ha, ga, h0, q⟩ := h
    exact ⟨a, us, e, g.h.keep a _ ha nt_lst, g.n a _ ha nt_lst ga, h0, QA.mono g.g _ _ q⟩
/-- slot i takes a value; its list is in no other slot -/
theorem Ok.setS (h : Ok K c G H ρ σ) (i : Nat) {v : V} {s : Sl} (q : NwSl K c c.H0 G H v s) (hd : ∀ xs a, s = .o xs → v = .ref a → ∀ j ys, j ≠ i → ρ[j]? = some (.o ys) → σ[j]? ≠ some (some (.ref a))) :
    Ok K c G H (ρ.set i s) (σ.set i (some v)) := by
  refine ⟨h.s, h.e, by simp [h.len], fun j x e => ?_, fun j k a xs ys e1 e2 e3 e4 => ?_⟩
  · rcases getset e with ⟨rfl, rfl, hl⟩ | ⟨hj, e'⟩
    · rw [List.getElem?_set_self (by rw [← h.len]; exact hl)]
      cases s with
      | no => trivial
      | d x => exact ⟨v, rfl, q⟩
      | o xs =>
        obtain ⟨a, us, rfl, r⟩ := q
        exact ⟨a, us, rfl, r⟩
    · rw [List.getElem?_set_ne hj]
      exact h.sl j x e'
  · rcases getset e1 with ⟨rfl, rfl, hl⟩ | ⟨hj, e1'⟩
    · rcases getset e2 with ⟨rfl, _, _⟩ | ⟨hk, e2'⟩
      · rfl
      · rw [List.getElem?_set_self (by rw [← h.len]; exact hl)] at e3
        rw [List.getElem?_set_ne hk] at e4
        cases e3
        exact absurd e4 (hd xs a rfl rfl k ys (Ne.symm hk) e2')
    · rw [List.getElem?_set_ne hj] at e3
      rcases getset e2 with ⟨rfl, rfl, hl⟩ | ⟨hk, e2'⟩
      · rw [List.getElem?_set_self (by rw [← h.len]; exact hl)] at e4
        cases e4
        exact absurd e3 (hd ys a rfl rfl j xs (Ne.symm hj) e1')
      · rw [List.getElem?_set_ne hk] at e4
        exact h.dj j k a xs ys e1' e2' e3 e4
/-- what is new stands apart from the slots -/
theorem Ok.apart (h : Ok K c G H ρ σ) {a : Addr} (n : Nw H a) {j : Nat} {ys : List D} (e : ρ[j]? = some (.o ys)) : σ[j]? ≠ some (some (.ref a)) := fun z => by
  obtain ⟨b, us, e2, hb, _⟩ := h.sl j _ e
  rw [z] at e2
  cases e2
  exact n.ne hb rfl
theorem Ok.new (h : Ok K c G H ρ σ) (g : Gr G H G' H') (i : Nat) {v : V} {s : Sl} (q : NwSl K c H G' H' v s) : Ok K c G' H' (ρ.set i s) (σ.set i (some v)) := by
  refine (h.gr g).setS i ?_ fun xs a es ev j ys _ e1 => ?_
  · cases s with
    | no => trivial
    | d x => exact q
    | o xs =>
      obtain ⟨a, us, rfl, h1, h2, h3, h4⟩ := q
      exact ⟨a, us, rfl, h1, h2, h3.of h.e.h, h4⟩
  · subst es ev
    obtain ⟨a', us, e, h1, h2, h3, h4⟩ := q
    cases e
    exact h.apart h3 e1
/-- a list of one's own is handed out for good -/
def frz (i : Nat) (ρ : Rho) : Rho := match ρ[i]? with
  | some (.o xs) => ρ.set i (.d (.list xs))
  | _ => ρ
theorem Ok.frz (h : Ok K c G H ρ σ) (i : Nat) : ∃ G', Same G G' ∧ Ok K c G' H (frz i ρ) σ := by
  cases e : ρ[i]? with
  | none => exact ⟨G, Same.refl G, by unfold M.frz; rw [e]; exact h⟩
  | some x =>
    cases x with
    | no => exact ⟨G, Same.refl G, by unfold M.frz; rw [e]; exact h⟩
    | d x => exact ⟨G, Same.refl G, by unfold M.frz; rw [e]; exact h⟩
    | o xs =>
      obtain ⟨a, us, e1, ha, ga, n0, q⟩ := h.sl i _ e
      have sm : Same G (upd G a (.lst us)) := new_same ga
      have eq : M.frz i ρ = ρ.set i (.d (.list xs)) := by unfold M.frz; rw [e]
      rw [eq]
      refine ⟨upd G a (.lst us), sm, ?_, ?_, by simp [h.len], fun j x e2 => ?_, fun j k b ys zs e2 e3 e4 e5 => ?_⟩
      · intro b o hb
        by_cases z : b = a
        · subst z
          rw [upd_same] at hb
          cases hb
          exact ⟨ha, nt_lst⟩
        · rw [upd_ne z] at hb
          exact h.s b o hb
      · refine ⟨h.e.g.trans sm, h.e.h, ?_, fun b o hb ht gb => ?_⟩
        · intro b o hb
          by_cases z : b = a
          · subst z
            rw [upd_same] at hb
            cases hb
            exact ⟨ha, nt_lst⟩
          · rw [upd_ne z] at hb
            exact h.s b o hb
        · rw [upd_ne (fun z => by subst z; exact n0 o hb ht)]
          exact h.e.n b o hb ht gb
      · rcases getset e2 with ⟨rfl, rfl, hl⟩ | ⟨hj, e2'⟩
        · exact ⟨.ref a, e1, .lst upd_same (QA.mono sm _ _ q)⟩
        · have := h.sl j x e2'
          cases x with
          | no => trivial
          | d x =>
            obtain ⟨u, e3, q3⟩ := this
            exact ⟨u, e3, Q.mono sm _ _ q3⟩
          | o ys =>
            obtain ⟨b, ws, e3, hb, gb, nb, qb⟩ := this
            refine ⟨b, ws, e3, hb, ?_, nb, QA.mono sm _ _ qb⟩
            rw [upd_ne (fun z => hj (h.dj i j a xs ys e e2' e1 (by rw [← z]; exact e3)))]
            exact gb
      · rcases getset e2 with ⟨rfl, z, _⟩ | ⟨hj, e2'⟩
        · cases z
        · rcases getset e3 with ⟨rfl, z, _⟩ | ⟨hk, e3'⟩
          · cases z
          · exact h.dj j k b ys zs e2' e3' e4 e5
/-- a list of one's own is changed -/
theorem Ok.wr (h : Ok K c G H ρ σ) {i : Nat} {a : Addr} {xs ys : List D} {us ws : List V} (e : ρ[i]? = some (.o xs)) (e1 : σ[i]? = some (some (.ref a))) (ha : H a = some (.lst us)) (ga : G a = none) (n0 : Nw c.H0 a) (q : QA K c.ns G ws ys) :
    Ok K c G (upd H a (.lst ws)) (ρ.set i (.o ys)) σ := by
  have hb : ∀ b o, b ≠ a → H b = some o → upd H a (.lst ws) b = some o := fun b o z e => by rw [upd_ne z]; exact e
  have hs : Sub G (upd H a (.lst ws)) := fun b o hg => ⟨hb b o (fun z => by subst z; rw [ga] at hg; cases hg) (h.s b o hg).1, (h.s b o hg).2⟩
  have hl : i < ρ.length := (List.getElem?_eq_some_iff.mp e).1
  refine ⟨hs, ⟨h.e.g, ⟨fun b o e2 ht => hb b o (fun z => by subst z; exact n0 o e2 ht) (h.e.h.keep b o e2 ht), fun T t => ?_⟩, hs, h.e.n⟩, by simp [h.len], fun j x e2 => ?_, fun j k b ys' zs e2 e3 e4 e5 => ?_⟩
  · obtain ⟨ps, t1, t2, t3⟩ := h.e.h.tabs T t
    refine ⟨ps, hb _ _ (fun z => by rw [z, ha] at t1; cases t1) t1, t2, fun pos cv hc => ?_⟩
    obtain ⟨cc, c1, c2⟩ := t3 pos cv hc
    exact ⟨cc, c1, hb _ _ (fun z => by rw [z, ha] at c2; cases c2) c2⟩
  · rcases getset e2 with ⟨rfl, rfl, _⟩ | ⟨hj, e2'⟩
    · exact ⟨a, ws, e1, upd_same, ga, n0, q⟩
    · have := h.sl j x e2'
      cases x with
      | no => trivial
      | d x => exact this
      | o ys' =>
        obtain ⟨b, vs, e3, hb', gb, nb, qb⟩ := this
        refine ⟨b, vs, e3, hb b _ (fun z => hj (h.dj i j a xs ys' e e2' e1 (by rw [← z]; exact e3))) hb', gb, nb, qb⟩
  · rcases getset e2 with ⟨rfl, _, _⟩ | ⟨hj, e2'⟩
    · rcases getset e3 with ⟨rfl, _, _⟩ | ⟨hk, e3'⟩
      · rfl
      · exact h.dj i k b xs zs e e3' e4 e5
    · rcases getset e3 with ⟨rfl, _, _⟩ | ⟨hk, e3'⟩
      · exact h.dj j i b ys' xs e2' e e4 e5
      · exact h.dj j k b ys' zs e2' e3' e4 e5
end

/-! ### what an assignment takes -/
section
variable (K : PySem.W.Frag) (c : Cm) (W : WM)
def PostN (G H : Hp) (σ : L2.St) (Qk : V → Hp → Prop) : R Sl → Prop
  | .ok s => ∀ G' H' v, Gr G H G' H' → NwSl K c H G' H' v s → Qk v H'
  | .rz z => ∀ G' H', Gr G H G' H' → W z σ H'
  | .bad => False
def tN (f : Rho → R Sl) : TE := fun σ H Qk => ∃ G ρ, Ok K c G H ρ σ ∧ PostN K c W G H σ Qk (f ρ)
end
abbrev MN (X : Cx) (c : Cm) (W : WM) (e : Expr) (f : Rho → R Sl) : Prop := PE X e (tN X.K c W f)
def nD (f : Rho → R D) : Rho → R Sl := fun ρ => (f ρ).bind fun x => .ok (.d x)
/-- a list that has just been made, as a slot's own -/
def nO (f : Rho → R (List D)) : Rho → R Sl := fun ρ => (f ρ).bind fun x => .ok (.o x)
section
variable {X : Cx} {c : Cm} {W : WM}
theorem PostN.gr {K : PySem.W.Frag} {G H G' H' : Hp} {σ : L2.St} {Qk : V → Hp → Prop} {r : R Sl} (h : PostN K c W G H σ Qk r) (g : Gr G H G' H') : PostN K c W G' H' σ Qk r := by
  cases r with
  | ok s => exact fun G2 H2 v g2 q => h G2 H2 v (g.trans g2) (by
      cases s with
      | no => trivial
      | d x => exact q
      | o xs =>
        obtain ⟨a, us, e, h1, h2, h3, h4⟩ := q
        exact ⟨a, us, e, h1, h2, h3.of g.h, h4⟩)
  | rz z => exact fun G2 H2 g2 => h G2 H2 (g.trans g2)
  | bad => exact h
theorem stepN {K : PySem.W.Frag} {α β : Type} {Rel : Hp → Hp → β → α → Prop} {G H : Hp} {σ : L2.St} {ρ : Rho} {f : Rho → R α} {F : α → R Sl} {Qk : V → Hp → Prop} {k : β → Hp → Prop} (ok : Ok K c G H ρ σ) (h : PostN K c W G H σ Qk ((f ρ).bind F))
    (hk : ∀ a G' H' v, f ρ = .ok a → Gr G H G' H' → Rel G' H' v a → Ok K c G' H' ρ σ → PostN K c W G' H' σ Qk (F a) → k v H') : tR K c W Rel f σ H k := by
  refine ⟨G, ρ, ok, ?_⟩
  cases e : f ρ with
  | ok a =>
    rw [e] at h
    exact fun G' H' v g r => hk a G' H' v e g r (ok.gr g) (PostN.gr (r := F a) h g)
  | rz z => rw [e] at h; exact h
  | bad => rw [e] at h; exact h.elim
theorem mn_d {e : Expr} {f : Rho → R D} (h : ME X c W e f) : MN X c W e (nD f) := PE.imp h fun σ H Qk ⟨G, ρ, ok, p⟩ => stepN ok p fun x G1 H1 v _ g1 r1 ok1 p1 => p1 G1 H1 v (Gr.refl ok1.s) r1
def nLst (g : Rho → R (List D)) : Rho → R Sl := fun ρ => (g ρ).bind fun xs => if xs.length ≤ 1000000 then .ok (.o xs) else .bad
theorem mn_lst {es : List Expr} {pos : Pos} {g : Rho → R (List D)} (h : MA X c W es g) : MN X c W (.List es pos) (nLst g) :=
  PE.imp (pe_lst h) fun σ H Qk ⟨G, ρ, ok, p⟩ => stepN ok p fun xs G1 H1 vs _ g1 r1 ok1 p1 => by
      by_cases hl : xs.length ≤ 1000000
      · rw [if_pos hl] at p1
        exact ⟨by rw [r1.length]; exact sz hl, fun q hq => p1 G1 _ _ (Gr.own ok1.s hq) ⟨q, vs, rfl, upd_same, ok1.s.free hq, Nw.none hq, r1⟩⟩
      · rw [if_neg hl] at p1; exact p1.elim
end

/-! ### statements -/
inductive Out where
  | nx (ρ : Rho)
  | rt (x : D)
  | rf (xs : List D)
  | rz (c : Str) (ρ : Rho)
  | bk (ρ : Rho)
  | ct (ρ : Rho)
  | bad
def R.out {α : Type} (r : R α) (ρ : Rho) (k : α → Out) : Out := match r with
  | .ok a => k a
  | .rz z => .rz z ρ
  | .bad => .bad
section
variable (K : PySem.W.Frag) (c : Cm) (W : WM)
def PostS (G : Hp) (De : Ends) : Out → Prop
  | .nx ρ => ∀ G' H' σ, Same G G' → Ok K c G' H' ρ σ → De.nx σ H'
  | .rt x => ∀ G' H' v, Gr c.G0 c.H0 G' H' → Q K c.ns G' v x → De.rt v H'
  | .rf xs => ∀ G' H' a us, Gr c.G0 c.H0 G' H' → Nw c.H0 a → H' a = some (.lst us) → G' a = none → QA K c.ns G' us xs → De.rt (.ref a) H'
  | .rz z ρ => ∀ G' H' σ, Same G G' → Ok K c G' H' ρ σ → W z σ H'
  | .bk ρ => ∀ G' H' σ, Same G G' → Ok K c G' H' ρ σ → De.bk σ H'
  | .ct ρ => ∀ G' H' σ, Same G G' → Ok K c G' H' ρ σ → De.ct σ H'
  | .bad => False
def tS (f : Rho → Out) : TS := fun De σ H => ∃ G ρ, Ok K c G H ρ σ ∧ PostS K c W G De (f ρ)
end
abbrev MS (X : Cx) (c : Cm) (W : WM) (st : Stmt) (f : Rho → Out) : Prop := PS X st (tS X.K c W f)
abbrev MSs (X : Cx) (c : Cm) (W : WM) (st : List Stmt) (f : Rho → Out) : Prop := PSs X st (tS X.K c W f)
section
variable {K : PySem.W.Frag} {c : Cm} {W : WM} {G H G' H' : Hp} {σ : L2.St} {ρ : Rho} {De : Ends}
theorem PostS.gr {o : Out} (h : PostS K c W G De o) (g : Same G G') : PostS K c W G' De o := by
  cases o with
  | nx ρ => exact fun G2 H2 σ s ok => h G2 H2 σ (g.trans s) ok
  | rt x => exact h
  | rf x => exact h
  | rz z ρ => exact fun G2 H2 σ s ok => h G2 H2 σ (g.trans s) ok
  | bk ρ => exact fun G2 H2 σ s ok => h G2 H2 σ (g.trans s) ok
  | ct ρ => exact fun G2 H2 σ s ok => h G2 H2 σ (g.trans s) ok
  | bad => exact h
theorem stepS {α β : Type} {Rel : Hp → Hp → β → α → Prop} {f : Rho → R α} {F : α → Out} {k : β → Hp → Prop} (ok : Ok K c G H ρ σ) (h : PostS K c W G De ((f ρ).out ρ F))
    (hk : ∀ a G' H' v, f ρ = .ok a → Gr G H G' H' → Rel G' H' v a → Ok K c G' H' ρ σ → PostS K c W G' De (F a) → k v H') : tR K c W Rel f σ H k := by
  refine ⟨G, ρ, ok, ?_⟩
  cases e : f ρ with
  | ok a =>
    rw [e] at h
    exact fun G' H' v g r => hk a G' H' v e g r (ok.gr g) (PostS.gr (o := F a) h g.g)
  | rz z =>
    rw [e] at h
    exact fun G' H' g => h G' H' σ g.g (ok.gr g)
  | bad => rw [e] at h; exact h.elim
theorem stepSN {f : Rho → R Sl} {F : Sl → Out} {k : V → Hp → Prop} (ok : Ok K c G H ρ σ) (h : PostS K c W G De ((f ρ).out ρ F))
    (hk : ∀ s G' H' v, f ρ = .ok s → Gr G H G' H' → NwSl K c H G' H' v s → Ok K c G' H' ρ σ → PostS K c W G' De (F s) → k v H') : tN K c W f σ H k := by
  refine ⟨G, ρ, ok, ?_⟩
  cases e : f ρ with
  | ok a =>
    rw [e] at h
    exact fun G' H' v g r => hk a G' H' v e g r (ok.gr g) (PostS.gr (o := F a) h g.g)
  | rz z =>
    rw [e] at h
    exact fun G' H' g => h G' H' σ g.g (ok.gr g)
  | bad => rw [e] at h; exact h.elim
end
def sNil : Rho → Out := .nx
def sSeq (f g : Rho → Out) : Rho → Out := fun ρ => match f ρ with
  | .nx ρ' => g ρ'
  | .rt x => .rt x
  | .rf x => .rf x
  | .rz z ρ' => .rz z ρ'
  | .bk ρ' => .bk ρ'
  | .ct ρ' => .ct ρ'
  | .bad => .bad
def sSet (i : Nat) (f : Rho → R Sl) : Rho → Out := fun ρ => (f ρ).out ρ fun s => .nx (ρ.set i s)
def sRet (f : Rho → R D) : Rho → Out := fun ρ => (f ρ).out ρ .rt
def sRetN (f : Rho → R Sl) : Rho → Out := fun ρ => (f ρ).out ρ fun s => match s with
  | .d x => .rt x
  | .o xs => .rf xs
  | .no => .bad
def sIf (t : Rho → R Bool) (f g : Rho → Out) : Rho → Out := fun ρ => (t ρ).out ρ fun b => if b then f ρ else g ρ
def sDrop (f : Rho → R D) : Rho → Out := fun ρ => (f ρ).out ρ fun _ => .nx ρ
def sFrz (i : Nat) (f : Rho → Out) : Rho → Out := fun ρ => f (frz i ρ)
def sBad : Rho → Out := fun _ => .bad
section
variable {X : Cx} {c : Cm} {W : WM}
theorem mss_nil : MSs X c W [] sNil := PSs.imp pss_nil fun De σ H ⟨G, ρ, ok, p⟩ => p G H σ (Same.refl G) ok
theorem seq_post {K : PySem.W.Frag} {G : Hp} {De : Ends} {f g : Rho → Out} {ρ : Rho} (p : PostS K c W G De (sSeq f g ρ)) : PostS K c W G { De with nx := tS K c W g De } (f ρ) := by
  unfold sSeq at p
  cases e : f ρ with
  | nx ρ' =>
    rw [e] at p
    exact fun G' H' σ s ok => ⟨G', ρ', ok, PostS.gr (o := g ρ') p s⟩
  | rt x => rw [e] at p; exact p
  | rf x => rw [e] at p; exact p
  | rz z ρ' => rw [e] at p; exact p
  | bk ρ' => rw [e] at p; exact p
  | ct ρ' => rw [e] at p; exact p
  | bad => rw [e] at p; exact p
theorem mss_cons {st : Stmt} {rest : List Stmt} {f g : Rho → Out} (h1 : MS X c W st f) (h2 : MSs X c W rest g) : MSs X c W (st :: rest) (sSeq f g) :=
  PSs.imp (pss_cons h1 h2) fun De σ H ⟨G, ρ, ok, p⟩ => ⟨G, ρ, ok, seq_post p⟩
theorem mss_one {st : Stmt} {f : Rho → Out} (h : MS X c W st f) : MSs X c W [st] f := pss_one h
theorem ms_set {i : Nat} {x : Str} {e : Expr} {f : Rho → R Sl} {pos pos' : Pos} (hN : X.N.Nodup) (hi : X.N[i]? = some x) (hx : Loc X.env.scope x) (he : MN X c W e f) (hs : swapsWith e (some (.Name x pos')) pos.line X.env = pure false := by rfl) (hf : X.fn x = true ∨ X.env.scope.names.lookup x = some .local := by first | exact .inl rfl | exact .inr rfl | assumption) :
    MS X c W (.Assign [.Name x pos'] e pos) (sSet i f) := PS.imp (ps_set hN hi hx he hs hf) fun De σ H ⟨G, ρ, ok, p⟩ => stepSN ok p fun s G1 H1 v _ g1 r1 ok1 p1 => p1 G1 H1 _ (Same.refl G1) (ok.new g1 i r1)
theorem ms_ret {e : Expr} {f : Rho → R D} {pos : Pos} (he : ME X c W e f) : MS X c W (.Return (some e) pos) (sRet f) :=
  PS.imp (ps_ret he) fun De σ H ⟨G, ρ, ok, p⟩ => stepS ok p fun x G1 H1 v _ g1 r1 ok1 p1 => p1 G1 H1 v ok1.e r1
theorem ms_retN {e : Expr} {f : Rho → R Sl} {pos : Pos} (he : MN X c W e f) : MS X c W (.Return (some e) pos) (sRetN f) :=
  PS.imp (ps_ret he) fun De σ H ⟨G, ρ, ok, p⟩ => stepSN ok p fun s G1 H1 v _ g1 r1 ok1 p1 => by
    cases s with
    | no => exact p1.elim
    | d x => exact p1 G1 H1 v ok1.e r1
    | o xs =>
      obtain ⟨a, us, rfl, h1, h2, h3, h4⟩ := r1
      exact p1 G1 H1 a us ok1.e (h3.of ok.e.h) h1 h2 h4
/-- return x, x a list of one's own -/
def own (i : Nat) : Rho → Out := fun ρ => match ρ[i]? with
  | some (.o xs) => .rf xs
  | some (.d x) => .rt x
  | _ => .bad
theorem ms_retO (i : Nat) {e : Expr} {pos : Pos} (he : PE X e (tVar i)) : MS X c W (.Return (some e) pos) (own i) :=
  PS.imp (ps_ret he) fun De σ H ⟨G, ρ, ok, p⟩ => by
    unfold own at p
    cases e1 : ρ[i]? with
    | none => rw [e1] at p; exact p.elim
    | some x =>
      cases x with
      | no => rw [e1] at p; exact p.elim
      | o xs =>
        rw [e1] at p
        obtain ⟨a, us, e2, ha, ga, n0, q⟩ := ok.sl i _ e1
        exact ⟨_, e2, p G H a us ok.e n0 ha ga q⟩
      | d x =>
        rw [e1] at p
        obtain ⟨u, e2, q⟩ := ok.sl i _ e1
        exact ⟨u, e2, p G H u ok.e q⟩
theorem ms_if {t : Expr} {a b : List Stmt} {ft : Rho → R Bool} {f g : Rho → Out} {pos : Pos} (ht : MT X c W t ft) (ha : MSs X c W a f) (hb : MSs X c W b g) : MS X c W (.If t a b pos) (sIf ft f g) :=
  PS.imp (ps_if ht ha hb) fun De σ H ⟨G, ρ, ok, p⟩ => stepS ok p fun x G1 H1 v _ g1 r1 ok1 p1 => by
    subst r1
    cases v with
    | true => exact ⟨G1, ρ, ok1, p1⟩
    | false => exact ⟨G1, ρ, ok1, p1⟩
theorem ms_expr {e : Expr} {f : Rho → R D} {pos : Pos} (he : MB X c W e f) (hs : swapsWith e none pos.line X.env = pure false := by rfl) : MS X c W (.Expr e pos) (sDrop f) :=
  PS.imp (ps_expr he hs) fun De σ H ⟨G, ρ, ok, p⟩ => stepS ok p fun x G1 H1 v _ g1 r1 ok1 p1 => p1 G1 H1 σ (Same.refl G1) ok1
theorem ms_pass {pos : Pos} : MS X c W (.Pass pos) sNil := PS.imp ps_pass fun De σ H ⟨G, ρ, ok, p⟩ => p G H σ (Same.refl G) ok
theorem ms_break {pos : Pos} : MS X c W (.Break pos) .bk := PS.imp ps_break fun De σ H ⟨G, ρ, ok, p⟩ => p G H σ (Same.refl G) ok
theorem ms_continue {pos : Pos} : MS X c W (.Continue pos) .ct := PS.imp ps_continue fun De σ H ⟨G, ρ, ok, p⟩ => p G H σ (Same.refl G) ok
theorem ms_never {st : Stmt} : MS X c W st sBad := PS.imp ps_never fun De σ H ⟨G, ρ, ok, p⟩ => p
theorem ms_doc {x j pos pos'} : MS X c W (.Expr (.Constant (.str x) j pos) pos') sNil := PS.imp ps_doc fun De σ H ⟨G, ρ, ok, p⟩ => p G H σ (Same.refl G) ok
theorem ms_frz (i : Nat) {st : Stmt} {f : Rho → Out} (h : MS X c W st f) : MS X c W st (sFrz i f) := PS.imp h fun De σ H ⟨G, ρ, ok, p⟩ => by
  obtain ⟨G', s, ok'⟩ := ok.frz i
  exact ⟨G', _, ok', PostS.gr (o := f (frz i ρ)) p s⟩
/-! ### x.append(e), x.extend(e), x[k] = e, x a list of one's own -/
def sApp (i : Nat) (f : Rho → R D) : Rho → Out := fun ρ => match ρ[i]? with
  | some (.o xs) => (f ρ).out ρ fun d => if xs.length < 1000000 then .nx (ρ.set i (.o (xs ++ [d]))) else .bad
  | _ => .bad
theorem tyL {K : PySem.W.Frag} {H : Hp} {a : Addr} {us : List V} (h : H a = some (.lst us)) : tyV K "list" (.ref a) H := .inl ⟨rfl, us, SqL.of h⟩
theorem own_of {K : PySem.W.Frag} {G H : Hp} {ρ : Rho} {σ : L2.St} {i : Nat} {xs : List D} (ok : Ok K c G H ρ σ) (e : ρ[i]? = some (.o xs)) {a : Addr} (e2 : σ[i]? = some (some (.ref a))) : ∃ us, H a = some (.lst us) ∧ G a = none ∧ Nw c.H0 a ∧ QA K c.ns G us xs := by
  obtain ⟨b, us, e3, h⟩ := ok.sl i _ e
  rw [e2] at e3
  cases e3
  exact ⟨us, h⟩
theorem ms_app {i : Nat} {e : Expr} {f : Rho → R D} {pos : Pos} (h : PE X e (tBM X.K "list" rAppend (tVar i) (tCons (tR X.K c W (RelQ X.K c.ns) f) tNil))) (hw : swapsWith e none pos.line X.env = pure false := by rfl) :
    MS X c W (.Expr e pos) (sApp i f) :=
  PS.imp (ps_expr h hw) fun De σ H ⟨G, ρ, ok, p⟩ => by
    unfold sApp at p
    split at p
    · rename_i xs e1
      obtain ⟨a, us, e2, ha, ga, n0, q⟩ := ok.sl i _ e1
      refine ⟨_, e2, tyL ha, stepS ok p fun d G1 H1 v _ g1 r1 ok1 p1 => ?_⟩
      split at p1
      · rename_i hl
        obtain ⟨us1, ha1, ga1, n1, q1⟩ := own_of ok1 e1 e2
        exact ⟨a, us1, v, rfl, rfl, ha1, szl (by rw [q1.length]; exact hl), p1 G1 _ σ (Same.refl G1) (ok1.wr e1 e2 ha1 ga1 n1 (q1.append (.cons r1 .nil)))⟩
      · exact p1.elim
    · exact p.elim
def sExt (i : Nat) (f : Rho → R D) : Rho → Out := fun ρ => match ρ[i]? with
  | some (.o xs) => (f ρ).out ρ fun d => match d with
    | .list ys => if xs.length + ys.length < 1000000 then .nx (ρ.set i (.o (xs ++ ys))) else .bad
    | _ => .bad
  | _ => .bad
theorem ms_ext {i : Nat} {e : Expr} {f : Rho → R D} {pos : Pos} (h : PE X e (tBM X.K "list" rExtend (tVar i) (tCons (tR X.K c W (RelB X.K c.ns) f) tNil))) (hw : swapsWith e none pos.line X.env = pure false := by rfl) :
    MS X c W (.Expr e pos) (sExt i f) :=
  PS.imp (ps_expr h hw) fun De σ H ⟨G, ρ, ok, p⟩ => by
    unfold sExt at p
    split at p
    · rename_i xs e1
      obtain ⟨a, us, e2, ha, ga, n0, q⟩ := ok.sl i _ e1
      refine ⟨_, e2, tyL ha, stepS ok p fun d G1 H1 v _ g1 r1 ok1 p1 => ?_⟩
      split at p1
      · rename_i ys
        split at p1
        · rename_i hl
          obtain ⟨us1, ha1, ga1, n1, q1⟩ := own_of ok1 e1 e2
          obtain ⟨b, ws, rfl, hb, qb⟩ := r1.list ok1.s
          exact ⟨a, b, us1, ws, rfl, rfl, ha1, hb, Nat.le_of_lt (szl (by rw [q1.length, qb.length]; exact hl)), p1 G1 _ σ (Same.refl G1) (ok1.wr e1 e2 ha1 ga1 n1 (q1.append qb))⟩
        · exact p1.elim
      · exact p1.elim
    · exact p.elim
def sPut (i : Nat) (k : Rho → R D) (f : Rho → R D) : Rho → Out := fun ρ => (f ρ).out ρ fun d => match ρ[i]? with
  | some (.o xs) => (k ρ).out ρ fun n => match n with
    | .int n => match ixN xs.length n with
      | some j => .nx (ρ.set i (.o (xs.set j d)))
      | none => .bad
    | _ => .bad
  | _ => .bad
theorem ms_put {i : Nat} {o ke e : Expr} {k f : Rho → R D} {pos pos' : Pos} (ho : PE X o (tVar i)) (hk : MB X c W ke k) (he : ME X c W e f) (hg : PG X (.Subscript o ke pos') (gSub (tVar i) (tR X.K c W (RelB X.K c.ns) k) rSetL))
    (hs : swapsWithSole [.Subscript o ke pos'] e pos.line X.env = pure false := by rfl) (hw : swappedStores [.Subscript o ke pos'] e X.env = pure none := by rfl)
    (h1 : (assignEach [.Subscript o ke pos'] X.env).map (·.2) = [assign (.Subscript o ke pos') X.env] := by rfl) :
    MS X c W (.Assign [.Subscript o ke pos'] e pos) (sPut i k f) :=
  PS.imp (ps_asg he hg hs hw h1) fun De σ H ⟨G, ρ, ok, p⟩ => stepS ok p fun d G1 H1 v _ g1 r1 ok1 p1 => by
    split at p1
    · rename_i xs e1
      obtain ⟨a, us, e2, _⟩ := ok1.sl i _ e1
      refine ⟨_, e2, stepS ok1 p1 fun n G2 H2 w hen g2 r2 ok2 p2 => ?_⟩
      split at p2
      · rename_i n
        split at p2
        · rename_i j hj
          obtain rfl := r2.int
          obtain ⟨us2, ha2, ga2, n2, q2⟩ := own_of ok2 e1 e2
          exact ⟨a, us2, n, j, rfl, rfl, ha2, by rw [q2.length]; exact hj, p2 G2 _ σ (Same.refl G2) (ok2.wr e1 e2 ha2 ga2 n2 (q2.set j (Q.mono g2.g _ _ r1)))⟩
        · exact p2.elim
      · exact p2.elim
    · exact p1.elim
end
end M

namespace M
open PySem PySem.Spec PyProof.Rows L2

theorem PI.imp {X : Cx} {tg e : Expr} {t t' : TI} (h : PI X tg e t) (i : ∀ σ H Q, t' σ H Q → t σ H Q) : PI X tg e t' := ⟨fun pins s σ H Q I hw => h.run pins s σ H Q I (i σ H Q hw)⟩

/-! ### what is walked -/
structure ItOk (K : PySem.W.Frag) (ns : Sc) (J : It) (P : Hp → Prop) (xs : List D) : Prop where
  mono : ∀ G G', Same G G' → P G → P G'
  go : ∀ G H i d, P G → Sub G H → xs[i]? = some d → J.go i H
  yld : ∀ G H i d x H', P G → Sub G H → xs[i]? = some d → J.yld i H x H' → ∃ G', Gr G H G' H' ∧ Q K ns G' x d
  stop : ∀ G H, P G → Sub G H → J.stop xs.length H
def PostI (K : PySem.W.Frag) (c : Cm) (W : WM) (G H : Hp) (σ : L2.St) (Rk : It → Hp → Prop) : R (List D) → Prop
  | .ok xs => ∀ G' H' J P, Gr G H G' H' → ItOk K c.ns J P xs → P G' → Rk J H'
  | .rz z => ∀ G' H', Gr G H G' H' → W z σ H'
  | .bad => False
def tIt (K : PySem.W.Frag) (c : Cm) (W : WM) (f : Rho → R (List D)) : TI := fun σ H Rk => ∃ G ρ, Ok K c G H ρ σ ∧ PostI K c W G H σ Rk (f ρ)
abbrev MI (X : Cx) (c : Cm) (W : WM) (tg e : Expr) (f : Rho → R (List D)) : Prop := PI X tg e (tIt X.K c W f)
section
variable {X : Cx} {c : Cm} {W : WM}
theorem PostI.gr {K : PySem.W.Frag} {G H G' H' : Hp} {σ : L2.St} {Rk : It → Hp → Prop} {r : R (List D)} (h : PostI K c W G H σ Rk r) (g : Gr G H G' H') : PostI K c W G' H' σ Rk r := by
  cases r with
  | ok xs => exact fun G2 H2 J P g2 i p => h G2 H2 J P (g.trans g2) i p
  | rz z => exact fun G2 H2 g2 => h G2 H2 (g.trans g2)
  | bad => exact h
theorem stepI {K : PySem.W.Frag} {α β : Type} {Rel : Hp → Hp → β → α → Prop} {G H : Hp} {σ : L2.St} {ρ : Rho} {f : Rho → R α} {F : α → R (List D)} {Rk : It → Hp → Prop} {k : β → Hp → Prop} (ok : Ok K c G H ρ σ) (h : PostI K c W G H σ Rk ((f ρ).bind F))
    (hk : ∀ a G' H' v, f ρ = .ok a → Gr G H G' H' → Rel G' H' v a → Ok K c G' H' ρ σ → PostI K c W G' H' σ Rk (F a) → k v H') : tR K c W Rel f σ H k := by
  refine ⟨G, ρ, ok, ?_⟩
  cases e : f ρ with
  | ok a =>
    rw [e] at h
    exact fun G' H' v g r => hk a G' H' v e g r (ok.gr g) (PostI.gr (r := F a) h g)
  | rz z => rw [e] at h; exact h
  | bad => rw [e] at h; exact h.elim
theorem QA.none {K : PySem.W.Frag} {ns : Sc} {G : Hp} {ds : List D} {vs : List V} {i : Nat} (h : QA K ns G vs ds) (e : ds[i]? = none) : vs[i]? = none := by
  rw [List.getElem?_eq_none_iff] at e ⊢
  rw [h.length]
  exact e
theorem it_list {K : PySem.W.Frag} {ns : Sc} {a : Addr} {us : List V} {ds : List D} : ItOk K ns (Itl K a) (fun G => G a = some (.lst us) ∧ QA K ns G us ds) ds where
  mono := fun G G' s p => ⟨s _ _ p.1, QA.mono s _ _ p.2⟩
  go := fun G H i d p s e => by
    obtain ⟨v, ev, q⟩ := p.2.get e
    exact ⟨us, v, SqL.of (s _ _ p.1).1, ev⟩
  yld := fun G H i d x H' p s e y => by
    obtain ⟨rfl, y⟩ := y
    obtain ⟨v, ev, q⟩ := p.2.get e
    have := y us (SqL.of (s _ _ p.1).1)
    rw [ev] at this
    cases this
    exact ⟨G, Gr.refl s, q⟩
  stop := fun G H p s => ⟨us, SqL.of (s _ _ p.1).1, Nat.le_of_eq p.2.length⟩
theorem it_tup {K : PySem.W.Frag} {ns : Sc} {a : Addr} {us : List V} {ds : List D} : ItOk K ns (Itt K a) (fun G => SqT K G a us ∧ QA K ns G us ds) ds where
  mono := fun G G' s p => ⟨SqT.same s p.1, QA.mono s _ _ p.2⟩
  go := fun G H i d p s e => by
    obtain ⟨v, ev, q⟩ := p.2.get e
    exact ⟨us, v, SqT.same s.same p.1, ev⟩
  yld := fun G H i d x H' p s e y => by
    obtain ⟨rfl, y⟩ := y
    obtain ⟨v, ev, q⟩ := p.2.get e
    have := y us (SqT.same s.same p.1)
    rw [ev] at this
    cases this
    exact ⟨G, Gr.refl s, q⟩
  stop := fun G H p s => ⟨us, SqT.same s.same p.1, Nat.le_of_eq p.2.length⟩
/-- the items of a list, of a tuple -/
def items : D → Option (List D)
  | .list xs => some xs
  | .tuple xs => some xs
  | _ => none
def itE (f : Rho → R D) : Rho → R (List D) := fun ρ => (f ρ).bind fun d => R.of (items d)
theorem pi_either {tg e : Expr} {te : TE} (h : PE X e te) : PI X tg e (fun σ H R => iList X.K te σ H R ∨ iTup X.K te σ H R) := ⟨fun pins s σ H R I hw => by
  rcases hw with hw | hw
  · exact (pi_list h).run pins s σ H R I hw
  · exact (pi_tup h).run pins s σ H R I hw⟩
theorem mi_of {tg e : Expr} {f : Rho → R D} (h : ME X c W e f) : MI X c W tg e (itE f) := PI.imp (pi_either h) fun σ H Rk ⟨G, ρ, ok, p⟩ => by
  cases ef : f ρ with
  | bad => unfold itE at p; rw [ef] at p; exact p.elim
  | rz z =>
    refine .inl (stepI ok p fun d G1 H1 v e1 g1 r1 ok1 p1 => ?_)
    rw [ef] at e1
    cases e1
  | ok d =>
    cases d with
    | list xs =>
      refine .inl (stepI ok p fun d G1 H1 v e1 g1 r1 ok1 p1 => ?_)
      rw [ef] at e1
      cases e1
      cases r1 with
      | lst h1 h2 => exact ⟨_, rfl, ⟨_, SqL.of (ok1.s _ _ h1).1⟩, p1 G1 H1 _ _ (Gr.refl ok1.s) it_list ⟨h1, h2⟩⟩
    | tuple xs =>
      refine .inr (stepI ok p fun d G1 H1 v e1 g1 r1 ok1 p1 => ?_)
      rw [ef] at e1
      cases e1
      cases r1 with
      | tup h1 h2 => exact ⟨_, rfl, ⟨_, SqT.same ok1.s.same h1⟩, p1 G1 H1 _ _ (Gr.refl ok1.s) it_tup ⟨h1, h2⟩⟩
    | _ => unfold itE at p; rw [ef] at p; exact p.elim
/-- lo, lo + 1, .. -/
def rng (lo : Int) (n : Nat) : List D := (List.range n).map fun (i : Nat) => .int (lo + (i : Int))
theorem it_rng {K : PySem.W.Frag} {ns : Sc} {lo : Int} {n : Nat} : ItOk K ns (Itr lo n) (fun _ => True) (rng lo n) where
  mono := fun _ _ _ _ => trivial
  go := fun G H i d p s e => by
    have := (List.getElem?_eq_some_iff.mp e).1
    show i < n
    simpa [rng] using this
  yld := fun G H i d x H' p s e y => by
    obtain ⟨rfl, rfl⟩ := y
    refine ⟨G, Gr.refl s, ?_⟩
    have hi := (List.getElem?_eq_some_iff.mp e).1
    simp only [rng, List.length_map, List.length_range] at hi
    rw [rng, List.getElem?_map, List.getElem?_range hi] at e
    cases e
    exact .int _
  stop := fun G H p s => by
    show n ≤ (rng lo n).length
    simp [rng]
def rg1 (f : Rho → R D) : Rho → R (List D) := fun ρ => (f ρ).bind fun d => match d with
  | .int j => if -1000000000 ≤ j ∧ j ≤ 1000000000 then .ok (rng 0 j.toNat) else .bad
  | _ => .bad
def rg2 (f g : Rho → R D) : Rho → R (List D) := fun ρ => (f ρ).bind fun d => (g ρ).bind fun e => match d, e with
  | .int i, .int j => if -1000000000 ≤ i ∧ i ≤ 1000000000 ∧ -1000000000 ≤ j ∧ j ≤ 1000000000 then .ok (rng i (j - i).toNat) else .bad
  | _, _ => .bad
theorem mi_range1 {tg a : Expr} {f : Rho → R D} {p pos : Pos} (hg : Gl X "range") (hm : X.mg "range" = none) (ha : MB X c W a f) (hs1 : starEach [a] X.env = (false, eval a X.env) :: starEach [] X.env := by rfl) (hs : starEach [a] X.env = [(false, eval a X.env)] := by rfl) :
    MI X c W tg (.Call (.Name "range" p) [a] [] pos) (rg1 f) := PI.imp (pi_range1 hg hm (pa_cons ha pa_nil hs1) hs) fun σ H Rk ⟨G, ρ, ok, p⟩ => stepI ok p fun d G1 H1 v e1 g1 r1 ok1 p1 => by
  split at p1
  · rename_i j
    split at p1
    · rename_i hj
      obtain rfl := r1.int
      exact ⟨_, rfl, by omega, by omega, p1 G1 H1 _ _ (Gr.refl ok1.s) it_rng trivial⟩
    · exact p1.elim
  · exact p1.elim
theorem mi_range2 {tg a b : Expr} {f g : Rho → R D} {p pos : Pos} (hg : Gl X "range") (hm : X.mg "range" = none) (ha : MB X c W a f) (hb : MB X c W b g) (hs1 : starEach [a, b] X.env = (false, eval a X.env) :: starEach [b] X.env := by rfl) (hs2 : starEach [b] X.env = (false, eval b X.env) :: starEach [] X.env := by rfl)
    (hs : starEach [a, b] X.env = [(false, eval a X.env), (false, eval b X.env)] := by rfl) (hs3 : starEach [b] X.env = [(false, eval b X.env)] := by rfl) :
    MI X c W tg (.Call (.Name "range" p) [a, b] [] pos) (rg2 f g) := PI.imp (pi_range2 hg hm (pa_cons ha (pa_cons hb pa_nil hs2) hs1) hs hs3) fun σ H Rk ⟨G, ρ, ok, p⟩ => stepI ok p fun d G1 H1 v e1 g1 r1 ok1 p1 => stepI ok1 p1 fun d2 G2 H2 v2 e2 g2 r2 ok2 p2 => by
  split at p2
  · rename_i i j
    split at p2
    · rename_i hj
      obtain rfl := r1.int
      obtain rfl := r2.int
      exact ⟨_, _, rfl, by omega, p2 G2 H2 _ _ (Gr.refl ok2.s) it_rng trivial⟩
    · exact p2.elim
  · exact p2.elim
/-! zip, enumerate -/
def zipD (xs ys : List D) : List D := List.zipWith (fun x y => .tuple [x, y]) xs ys
theorem zip_get {xs ys : List D} {i : Nat} {d : D} (h : (zipD xs ys)[i]? = some d) : ∃ x y, xs[i]? = some x ∧ ys[i]? = some y ∧ d = .tuple [x, y] := by
  unfold zipD at h
  rw [List.getElem?_zipWith] at h
  split at h
  · rename_i x y e1 e2
    cases h
    exact ⟨x, y, e1, e2, rfl⟩
  · cases h
theorem pair_new {K : PySem.W.Frag} {ns : Sc} {G H : Hp} {T : Addr} {x y : V} {dx dy : D} (s : Sub G H) (hT : H T = none) (qx : Q K ns G x dx) (qy : Q K ns G y dy) : ∃ G', Gr G H G' (upd H T (.tup [x, y])) ∧ Q K ns G' (.ref T) (.tuple [dx, dy]) :=
  have sm := new_same (o := .tup [x, y]) (s.free hT)
  ⟨upd G T (.tup [x, y]), Gr.new s hT nt_tup, .tup (.inl (.inl upd_same)) (.cons (Q.mono sm _ _ qx) (.cons (Q.mono sm _ _ qy) .nil))⟩
theorem it_zipL {K : PySem.W.Frag} {ns : Sc} {a b : Addr} {us ws : List V} {xs ys : List D} : ItOk K ns (Itz K a b) (fun G => (G a = some (.lst us) ∧ QA K ns G us xs) ∧ G b = some (.lst ws) ∧ QA K ns G ws ys) (zipD xs ys) where
  mono := fun G G' s p => ⟨⟨s _ _ p.1.1, QA.mono s _ _ p.1.2⟩, s _ _ p.2.1, QA.mono s _ _ p.2.2⟩
  go := fun G H i d p s e => by
    obtain ⟨x, y, e1, e2, rfl⟩ := zip_get e
    obtain ⟨v, ev, q⟩ := p.1.2.get e1
    obtain ⟨w, ew, r⟩ := p.2.2.get e2
    exact ⟨us, ws, v, w, SqL.of (s _ _ p.1.1).1, SqL.of (s _ _ p.2.1).1, ev, ew⟩
  yld := fun G H i d x H' p s e y => by
    obtain ⟨T, v', w', rfl, hT, rfl, h1, h2⟩ := y
    obtain ⟨x, y, e1, e2, rfl⟩ := zip_get e
    obtain ⟨v, ev, q⟩ := p.1.2.get e1
    obtain ⟨w, ew, r⟩ := p.2.2.get e2
    have z1 := h1 us (SqL.of (s _ _ p.1.1).1)
    have z2 := h2 ws (SqL.of (s _ _ p.2.1).1)
    rw [ev] at z1
    rw [ew] at z2
    cases z1
    cases z2
    exact pair_new s hT q r
  stop := fun G H p s => ⟨us, ws, SqL.of (s _ _ p.1.1).1, SqL.of (s _ _ p.2.1).1, by
    rw [p.1.2.length, p.2.2.length]
    unfold zipD
    rw [List.length_zipWith]
    omega⟩
theorem it_zipT {K : PySem.W.Frag} {ns : Sc} {a b : Addr} {us ws : List V} {xs ys : List D} : ItOk K ns (RZ.ItzT K a b) (fun G => (SqT K G a us ∧ QA K ns G us xs) ∧ SqT K G b ws ∧ QA K ns G ws ys) (zipD xs ys) where
  mono := fun G G' s p => ⟨⟨SqT.same s p.1.1, QA.mono s _ _ p.1.2⟩, SqT.same s p.2.1, QA.mono s _ _ p.2.2⟩
  go := fun G H i d p s e => by
    obtain ⟨x, y, e1, e2, rfl⟩ := zip_get e
    obtain ⟨v, ev, q⟩ := p.1.2.get e1
    obtain ⟨w, ew, r⟩ := p.2.2.get e2
    exact ⟨us, ws, v, w, SqT.same s.same p.1.1, SqT.same s.same p.2.1, ev, ew⟩
  yld := fun G H i d x H' p s e y => by
    obtain ⟨T, v', w', rfl, hT, rfl, h1, h2⟩ := y
    obtain ⟨x, y, e1, e2, rfl⟩ := zip_get e
    obtain ⟨v, ev, q⟩ := p.1.2.get e1
    obtain ⟨w, ew, r⟩ := p.2.2.get e2
    have z1 := h1 us (SqT.same s.same p.1.1)
    have z2 := h2 ws (SqT.same s.same p.2.1)
    rw [ev] at z1
    rw [ew] at z2
    cases z1
    cases z2
    exact pair_new s hT q r
  stop := fun G H p s => ⟨us, ws, SqT.same s.same p.1.1, SqT.same s.same p.2.1, by
    rw [p.1.2.length, p.2.2.length]
    unfold zipD
    rw [List.length_zipWith]
    omega⟩
def zpE (f g : Rho → R D) : Rho → R (List D) := fun ρ => (f ρ).bind fun d => (g ρ).bind fun e => match d, e with
  | .list xs, .list ys => .ok (zipD xs ys)
  | .tuple xs, .tuple ys => .ok (zipD xs ys)
  | _, _ => .bad
theorem mi_zip {a b : Expr} {f g : Rho → R D} {p pos tpos : Pos} {elts : List Expr} {kk : Nat} (hg : Gl X "zip") (hm : X.mg "zip" = none) (ha : ME X c W a f) (hb : ME X c W b g) (hs1 : starEach [a, b] X.env = (false, eval a X.env) :: starEach [b] X.env := by rfl) (hs2 : starEach [b] X.env = (false, eval b X.env) :: starEach [] X.env := by rfl)
    (hpl : (backTo pos (starEach [b] X.env)).any (·.1) = false := by rfl) :
    MI X c W (.Tuple elts kk tpos) (.Call (.Name "zip" p) [a, b] [] pos) (zpE f g) := PI.imp (RZ.pi_zipA hg hm (pa_cons ha (pa_cons hb pa_nil hs2) hs1) hs1 hpl) fun σ H Rk ⟨G, ρ, ok, p⟩ => stepI ok p fun d G1 H1 v e1 g1 r1 ok1 p1 => stepI ok1 p1 fun d2 G2 H2 v2 e2 g2 r2 ok2 p2 => by
  have r1 := Q.mono g2.g _ _ r1
  split at p2
  · cases r1 with
    | lst h1 h2 =>
      cases r2 with
      | lst h3 h4 => exact ⟨_, _, _, _, rfl, .inl ⟨SqL.of (ok2.s _ _ h1).1, SqL.of (ok2.s _ _ h3).1, p2 G2 H2 _ _ (Gr.refl ok2.s) it_zipL ⟨⟨h1, h2⟩, h3, h4⟩⟩⟩
  · cases r1 with
    | tup h1 h2 =>
      cases r2 with
      | tup h3 h4 => exact ⟨_, _, _, _, rfl, .inr ⟨SqT.same ok2.s.same h1, SqT.same ok2.s.same h3, p2 G2 H2 _ _ (Gr.refl ok2.s) it_zipT ⟨⟨h1, h2⟩, h3, h4⟩⟩⟩
  · exact p2.elim
end

/-! ### targets -/
def TgOk (X : Cx) (c : Cm) (vs : List Nat) (g : TG) (b : D → Rho → Option Rho) : Prop := ∀ (G H : Hp) (σ : L2.St) (ρ : Rho) (x : V) (d : D) (ρ' : Rho) (Qk : L2.St → Hp → Prop), Ok X.K c G H ρ σ → Q X.K c.ns G x d → b d ρ = some ρ' →
  (∀ σ', Ok X.K c G H ρ' σ' → wipe σ' vs = wipe σ vs → Qk σ' H) → g x σ H Qk
def bName (i : Nat) : D → Rho → Option Rho := fun d ρ => some (ρ.set i (.d d))
def bNames : List Nat → List D → Rho → Option Rho
  | [], [], ρ => some ρ
  | i :: is, d :: ds, ρ => bNames is ds (ρ.set i (.d d))
  | _, _, _ => none
def bTup (is : List Nat) : D → Rho → Option Rho
  | .tuple xs, ρ => bNames is xs ρ
  | _, _ => none
theorem wipe_set {σ : L2.St} {i : Nat} {x : Option V} : ∀ {vs : List Nat}, i ∈ vs → wipe (σ.set i x) vs = wipe σ vs
  | [], h => by cases h
  | v :: vs, h => by
    unfold wipe
    by_cases hv : i ∈ vs
    · rw [wipe_set hv]
    · have hi : i = v := by
        rcases List.mem_cons.mp h with z | z
        · exact z
        · exact absurd z hv
      subst hi
      have : ∀ ws : List Nat, i ∉ ws → wipe (σ.set i x) ws = (wipe σ ws).set i x := by
        intro ws
        induction ws with
        | nil => intro _; rfl
        | cons w ws ih =>
          intro hw
          simp only [List.mem_cons, not_or] at hw
          unfold wipe
          rw [ih hw.2, List.set_comm _ _ hw.1]
      rw [this vs hv, List.set_set]
def wip (vs : List Nat) (ρ : Rho) : Rho := match vs with
  | [] => ρ
  | v :: vs => (wip vs ρ).set v .no
section
variable {X : Cx} {c : Cm} {W : WM}
theorem Ok.no {K : PySem.W.Frag} {G H : Hp} {ρ : Rho} {σ : L2.St} (h : Ok K c G H ρ σ) (i : Nat) : Ok K c G H (ρ.set i .no) (σ.set i none) := by
  refine ⟨h.s, h.e, by simp [h.len], fun j x e => ?_, fun j k a xs ys e1 e2 e3 e4 => ?_⟩
  · rcases getset e with ⟨rfl, rfl, hl⟩ | ⟨hj, e'⟩
    · trivial
    · rw [List.getElem?_set_ne hj]
      exact h.sl j x e'
  · rcases getset e1 with ⟨_, z, _⟩ | ⟨hj, e1'⟩
    · cases z
    · rcases getset e2 with ⟨_, z, _⟩ | ⟨hk, e2'⟩
      · cases z
      · rw [List.getElem?_set_ne hj] at e3
        rw [List.getElem?_set_ne hk] at e4
        exact h.dj j k a xs ys e1' e2' e3 e4
theorem Ok.wip {K : PySem.W.Frag} {G H : Hp} {ρ : Rho} {σ : L2.St} (h : Ok K c G H ρ σ) : ∀ vs : List Nat, Ok K c G H (wip vs ρ) (wipe σ vs)
  | [] => h
  | v :: vs => (Ok.wip h vs).no v
theorem wip_own {ρ : Rho} {j : Nat} {ys : List D} : ∀ {vs : List Nat}, (wip vs ρ)[j]? = some (.o ys) → ρ[j]? = some (.o ys)
  | [], h => h
  | v :: vs, h => by
    unfold M.wip at h
    rcases getset h with ⟨_, z, _⟩ | ⟨_, e⟩
    · cases z
    · exact wip_own e
theorem tg_name {vs : List Nat} (i : Nat) (hi : i ∈ vs := by simp) : TgOk X c vs (gName i) (bName i) := fun G H σ ρ x d ρ' Qk ok q e k => by
  cases e
  exact k _ (ok.setD i q) (wipe_set hi)
def TgsOk (X : Cx) (c : Cm) (vs : List Nat) (g : TGs) (is : List Nat) : Prop := ∀ (G H : Hp) (σ : L2.St) (ρ : Rho) (xs : List V) (ds : List D) (ρ' : Rho) (Qk : L2.St → Hp → Prop), Ok X.K c G H ρ σ → QA X.K c.ns G xs ds → bNames is ds ρ = some ρ' →
  (∀ σ', Ok X.K c G H ρ' σ' → wipe σ' vs = wipe σ vs → Qk σ' H) → g xs σ H Qk
theorem tgs_nil {vs : List Nat} : TgsOk X c vs gNil [] := fun G H σ ρ xs ds ρ' Qk ok q e k => by
  cases q with
  | nil => cases e; exact ⟨rfl, k σ ok rfl⟩
  | cons _ _ => cases e
theorem tgs_cons {vs : List Nat} (i : Nat) {g : TGs} {is : List Nat} (h : TgsOk X c vs g is) (hi : i ∈ vs := by simp) : TgsOk X c vs (gCons (gName i) g) (i :: is) := fun G H σ ρ xs ds ρ' Qk ok q e k => by
  cases q with
  | nil => cases e
  | cons q1 q2 => exact ⟨_, _, rfl, h G H _ _ _ _ ρ' Qk (ok.setD i q1) q2 e fun σ' ok' w => k σ' ok' (w.trans (wipe_set hi))⟩
theorem bNames_len : ∀ {is : List Nat} {ds : List D} {ρ ρ' : Rho}, bNames is ds ρ = some ρ' → ds.length = is.length
  | [], [], _, _, _ => rfl
  | i :: is, d :: ds, ρ, ρ', h => by
    have := bNames_len (is := is) (ds := ds) (ρ := ρ.set i (.d d)) (ρ' := ρ') h
    simp [this]
  | [], _ :: _, _, _, h => by cases h
  | _ :: _, [], _, _, h => by cases h
theorem tg_tup {vs : List Nat} {g : TGs} {is : List Nat} {n : Nat} (h : TgsOk X c vs g is) (hn : is.length = n := by rfl) : TgOk X c vs (gTup X.K n g) (bTup is) := fun G H σ ρ x d ρ' Qk ok q e k => by
  cases d with
  | tuple ds =>
    cases q with
    | tup h1 h2 => exact ⟨_, _, rfl, SqT.same ok.s.same h1, by rw [h2.length, bNames_len e, hn], h G H σ ρ _ ds ρ' Qk ok h2 e k⟩
  | _ => cases e
/-! ### for -/
def forL (b : D → Rho → Option Rho) (body : Rho → Out) : List D → Rho → Out
  | [], ρ => .nx ρ
  | x :: xs, ρ => match b x ρ with
    | none => .bad
    | some ρ1 => match body ρ1 with
      | .nx ρ' => forL b body xs ρ'
      | .ct ρ' => forL b body xs ρ'
      | .bk ρ' => .nx ρ'
      | .rt x => .rt x
      | .rf x => .rf x
      | .rz z ρ' => .rz z ρ'
      | .bad => .bad
def sFor (it : Rho → R (List D)) (b : D → Rho → Option Rho) (body : Rho → Out) : Rho → Out := fun ρ => (it ρ).out ρ fun xs => forL b body xs ρ
theorem stepSI {K : PySem.W.Frag} {G H : Hp} {σ : L2.St} {ρ : Rho} {De : Ends} {f : Rho → R (List D)} {F : List D → Out} {k : It → Hp → Prop} (ok : Ok K c G H ρ σ) (h : PostS K c W G De ((f ρ).out ρ F))
    (hk : ∀ xs G' H' J P, f ρ = .ok xs → Gr G H G' H' → ItOk K c.ns J P xs → P G' → Ok K c G' H' ρ σ → PostS K c W G' De (F xs) → k J H') : tIt K c W f σ H k := by
  refine ⟨G, ρ, ok, ?_⟩
  cases e : f ρ with
  | ok xs =>
    rw [e] at h
    exact fun G' H' J P g i p => hk xs G' H' J P e g i p (ok.gr g) (PostS.gr (o := F xs) h g.g)
  | rz z =>
    rw [e] at h
    exact fun G' H' g => h G' H' σ g.g (ok.gr g)
  | bad => rw [e] at h; exact h.elim
theorem ms_for {tg iter : Expr} {body : List Stmt} {it : Rho → R (List D)} {g : TG} {b : D → Rho → Option Rho} {fb : Rho → Out} {vs : List Nat} {pos : Pos} (hp : PassesOwn (model X.prog X.w) X.A X.env X.xe) (hc : X.calm = true) (hi : MI X c W tg iter it) (hg : PG X tg g) (tk : TgOk X c vs g b) (hb : MSs X c W body fb)
    (hs : ∀ x, foldedSetIterable iter X.env x = pure x := by intro _; rfl) : MS X c W (.For tg iter body [] pos) (sFor it b fb) :=
  PS.imp (ps_for hp hc hi hg hb hs) fun De σ H ⟨G, ρ, ok, p⟩ => stepSI ok p fun xs G1 H1 J P _ g1 I pG ok1 p1 => by
    refine ⟨fun i m σ H => i ≤ xs.length ∧ m = xs.length - i ∧ ∃ G ρ, Ok X.K c G H ρ σ ∧ P G ∧ PostS X.K c W G De (forL b fb (xs.drop i) ρ), ⟨xs.length, Nat.zero_le _, by simp, G1, ρ, ok1, pG, p1⟩, ?_⟩
    rintro i m σ H ⟨hi, rfl, G, ρ, ok, pG, p⟩
    by_cases hlt : i < xs.length
    · have ed : xs.drop i = xs[i] :: xs.drop (i + 1) := List.drop_eq_getElem_cons hlt
      have ex : xs[i]? = some xs[i] := List.getElem?_eq_getElem hlt
      rw [ed] at p
      refine .inr ⟨I.go G H i _ pG ok.s ex, fun σ' H' => ∃ G ρ, Ok X.K c G H' ρ σ' ∧ P G ∧ PostS X.K c W G De (forL b fb (xs.drop (i + 1)) ρ), fun σ' H' n => ⟨xs.length - (i + 1), by omega, hlt, rfl, n⟩, fun x H' y => ?_⟩
      obtain ⟨G', gr, q⟩ := I.yld G H i _ x H' pG ok.s ex y
      have ok' := ok.gr gr
      unfold forL at p
      cases eb : b xs[i] ρ with
      | none => rw [eb] at p; exact p.elim
      | some ρ1 =>
        rw [eb] at p
        dsimp only at p
        refine tk G' H' σ ρ x _ ρ1 _ ok' q eb fun σ' ok2 _ => ⟨G', ρ1, ok2, ?_⟩
        have pG' := I.mono G G' gr.g pG
        cases eo : fb ρ1 with
        | nx ρ2 =>
          rw [eo] at p
          exact fun G2 H2 σ2 s ok3 => ⟨G2, ρ2, ok3, I.mono _ _ s pG', PostS.gr (o := forL b fb (xs.drop (i + 1)) ρ2) p (gr.g.trans s)⟩
        | ct ρ2 =>
          rw [eo] at p
          exact fun G2 H2 σ2 s ok3 => ⟨G2, ρ2, ok3, I.mono _ _ s pG', PostS.gr (o := forL b fb (xs.drop (i + 1)) ρ2) p (gr.g.trans s)⟩
        | bk ρ2 =>
          rw [eo] at p
          exact fun G2 H2 σ2 s ok3 => p G2 H2 σ2 (gr.g.trans s) ok3
        | rt x => rw [eo] at p; exact p
        | rf x => rw [eo] at p; exact p
        | rz z ρ2 =>
          rw [eo] at p
          exact fun G2 H2 σ2 s ok3 => p G2 H2 σ2 (gr.g.trans s) ok3
        | bad => rw [eo] at p; exact p
    · have e : i = xs.length := by omega
      subst e
      rw [List.drop_length] at p
      exact .inl ⟨I.stop G H pG ok.s, p G H σ (Same.refl G) ok⟩
/-! ### while -/
def whL (t : Rho → R Bool) (body : Rho → Out) : Nat → Rho → Out
  | 0, _ => .bad
  | n + 1, ρ => (t ρ).out ρ fun b => if b then (match body ρ with
      | .nx ρ' => whL t body n ρ'
      | .ct ρ' => whL t body n ρ'
      | .bk ρ' => .nx ρ'
      | .rt x => .rt x
      | .rf x => .rf x
      | .rz z ρ' => .rz z ρ'
      | .bad => .bad) else .nx ρ
theorem ms_while (n : Nat) {t : Expr} {body : List Stmt} {ft : Rho → R Bool} {fb : Rho → Out} {pos : Pos} (hp : PassesOwn (model X.prog X.w) X.A X.env X.xe) (ht : MT X c W t ft) (hb : MSs X c W body fb) : MS X c W (.While t body [] pos) (whL ft fb n) :=
  PS.imp (ps_while hp ht hb) fun De σ H ⟨G, ρ, ok, p⟩ => by
    refine ⟨fun m σ H => ∃ G ρ, Ok X.K c G H ρ σ ∧ PostS X.K c W G De (whL ft fb m ρ), ⟨n, G, ρ, ok, p⟩, ?_⟩
    rintro m σ H ⟨G, ρ, ok, p⟩
    cases m with
    | zero => exact p.elim
    | succ m =>
      unfold whL at p
      refine stepS ok p fun b G1 H1 v _ g1 r1 ok1 p1 => ?_
      subst r1
      cases v with
      | false => exact p1 G1 H1 σ (Same.refl G1) ok1
      | true =>
        refine ⟨fun σ' H' => ∃ G ρ, Ok X.K c G H' ρ σ' ∧ PostS X.K c W G De (whL ft fb m ρ), fun σ' H' n => ⟨m, Nat.lt_succ_self m, n⟩, G1, ρ, ok1, ?_⟩
        rw [if_pos rfl] at p1
        cases eo : fb ρ with
        | nx ρ2 =>
          rw [eo] at p1
          exact fun G2 H2 σ2 s ok3 => ⟨G2, ρ2, ok3, PostS.gr (o := whL ft fb m ρ2) p1 s⟩
        | ct ρ2 =>
          rw [eo] at p1
          exact fun G2 H2 σ2 s ok3 => ⟨G2, ρ2, ok3, PostS.gr (o := whL ft fb m ρ2) p1 s⟩
        | bk ρ2 => rw [eo] at p1; exact p1
        | rt x => rw [eo] at p1; exact p1
        | rf x => rw [eo] at p1; exact p1
        | rz z ρ2 => rw [eo] at p1; exact p1
        | bad => rw [eo] at p1; exact p1
end
end M

namespace M
open PySem PySem.Spec PyProof.Rows L2

/-! ### a list that is being made -/
theorem tabs_poke {H : Hp} {a : Addr} {us ws : List V} (ha : H a = some (.lst us)) {T : Addr} (t : TabQ H T) : TabQ (upd H a (.lst ws)) T := by
  obtain ⟨ps, t1, t2, t3⟩ := t
  refine ⟨ps, by rw [upd_ne (fun z => by rw [z, ha] at t1; cases t1)]; exact t1, t2, fun pos cv hc => ?_⟩
  obtain ⟨cc, c1, c2⟩ := t3 pos cv hc
  exact ⟨cc, c1, by rw [upd_ne (fun z => by rw [z, ha] at c2; cases c2)]; exact c2⟩
section
variable {K : PySem.W.Frag} {c : Cm} {G H G1 H1 : Hp} {ρ : Rho} {σ : L2.St} {a : Addr} {us ws : List V}
theorem Sub.poke (s : Sub G H) (ga : G a = none) : Sub G (upd H a (.lst ws)) := fun b o hg => by
  rw [upd_ne (fun z => by subst z; rw [ga] at hg; cases hg)]
  exact s b o hg
theorem Gr.poke (g : Gr G1 H1 G H) (n : Nw H1 a) (ha : H a = some (.lst us)) (ga : G a = none) : Gr G1 H1 G (upd H a (.lst ws)) :=
  ⟨g.g, ⟨fun b o e ht => by rw [upd_ne (fun z => by subst z; exact n o e ht)]; exact g.h.keep b o e ht, fun T t => tabs_poke ha (g.h.tabs T t)⟩, g.s.poke ga, g.n⟩
theorem Ok.poke (h : Ok K c G H ρ σ) (ha : H a = some (.lst us)) (ga : G a = none) (n0 : Nw c.H0 a) (ap : ∀ (j : Nat) (ys : List D), ρ[j]? = some (Sl.o ys) → σ[j]? ≠ some (some (V.ref a))) : Ok K c G (upd H a (.lst ws)) ρ σ :=
  ⟨h.s.poke ga, h.e.poke n0 ha ga, h.len, fun j x e => by
    have := h.sl j x e
    cases x with
    | no => trivial
    | d x => exact this
    | o ys =>
      obtain ⟨b, vs, e3, hb, gb, nb, qb⟩ := this
      exact ⟨b, vs, e3, by rw [upd_ne (fun z => ap j ys e (by rw [← z]; exact e3))]; exact hb, gb, nb, qb⟩, h.dj⟩
theorem Gr.seal (g : Gr G1 H1 G H) (n : Nw H1 a) (ha : H a = some (.lst us)) (ga : G a = none) : Gr G1 H1 (upd G a (.lst us)) H :=
  ⟨g.g.trans (new_same ga), g.h, fun b o e => by
    by_cases z : b = a
    · subst z
      rw [upd_same] at e
      cases e
      exact ⟨ha, nt_lst⟩
    · rw [upd_ne z] at e
      exact g.s b o e, fun b o e ht gb => by
    rw [upd_ne (fun z => by subst z; exact n o e ht)]
    exact g.n b o e ht gb⟩
end

theorem wipe_wipe {σ : L2.St} {vs : List Nat} : ∀ us : List Nat, (∀ u ∈ us, u ∈ vs) → wipe (wipe σ us) vs = wipe σ vs
  | [], _ => rfl
  | u :: us, h => by
    have e : wipe σ (u :: us) = (wipe σ us).set u none := rfl
    rw [e, wipe_set (h u (by simp)), wipe_wipe us fun x hx => h x (by simp [hx])]
/-! ### comprehensions -/
def lcL (b : D → Rho → Option Rho) (t : Rho → R Bool) (f : Rho → R D) (ρ : Rho) : List D → Option (List D)
  | [] => some []
  | x :: xs => match b x ρ with
    | none => none
    | some ρ1 => match t ρ1 with
      | .ok false => lcL b t f ρ xs
      | .ok true => match f ρ1 with
        | .ok y => match lcL b t f ρ xs with
          | some ys => some (y :: ys)
          | none => none
        | _ => none
      | _ => none
def lcE (vs : List Nat) (it : Rho → R (List D)) (b : D → Rho → Option Rho) (t : Rho → R Bool) (f : Rho → R D) : Rho → R (List D) := fun ρ => (it ρ).bind fun xs => if xs.length ≤ 1000000 then R.of (lcL b t f (wip vs ρ) xs) else .bad
def lcD (f : Rho → R (List D)) : Rho → R D := fun ρ => (f ρ).bind fun xs => .ok (.list xs)
section
variable {X : Cx} {c : Cm} {W : WM}
theorem lc_walk {K : PySem.W.Frag} (hK : X.K = K) {g : TG} {b : D → Rho → Option Rho} {ft : Rho → R Bool} {f : Rho → R D} {vs : List Nat} {tt : TT} {te : TE} (tk : TgOk X c vs g b)
    (ht : ∀ σ H Q, tR K c W0 RelT ft σ H Q → tt σ H Q) (he : ∀ σ H Q, tR K c W0 (RelQ K c.ns) f σ H Q → te σ H Q)
    {J : It} {P : Hp → Prop} {xs all : List D} (I : ItOk K c.ns J P xs) {G1 H1 : Hp} {ρ : Rho} {σ : L2.St} (ok1 : Ok K c G1 H1 ρ σ) (pG : P G1) (hz : xs.length ≤ 1000000) (ha : lcL b ft f (wip vs ρ) xs = some all) {Da : Addr} (hD : H1 Da = none) {Qd : Hp → Prop}
    (hq : ∀ G' H' us, Gr G1 H1 G' H' → Nw H1 Da → H' Da = some (.lst us) → G' Da = none → QA K c.ns G' us all → Qd H') :
    ∃ Wv : Nat → Nat → Hp → Prop, (∃ m, Wv 0 m (upd H1 Da (.lst []))) ∧ ∀ i m H, Wv i m H → (J.stop i H ∧ Qd H) ∨ (J.go i H ∧ ∃ Nx : Hp → Prop, (∀ H', Nx H' → ∃ m', m' < m ∧ Wv (i + 1) m' H') ∧ ∀ x H', J.yld i H x H' → g x (wipe σ vs) H' fun σ2 H2 => wipe σ2 vs = wipe σ vs ∧ tt σ2 H2 fun b H3 =>
    if b = true then te σ2 H3 fun y H4 => ∃ acc, H4 Da = some (.lst acc) ∧ acc.length < sizeLine ∧ Nx (upd H4 Da (.lst (acc ++ [y]))) else Nx H3) := by
  subst hK
  have nD : Nw H1 Da := Nw.none hD
  have n0 : Nw c.H0 Da := nD.of ok1.e.h
  have ap : ∀ (j : Nat) (ys : List D), (wip vs ρ)[j]? = some (Sl.o ys) → (wipe σ vs)[j]? ≠ some (some (V.ref Da)) := fun j ys e z => ok1.apart nD (wip_own e) (wipe_some z).1
  let Inv' : Nat → Hp → Prop := fun i H => ∃ G us ys zs, Gr G1 H1 G H ∧ Ok X.K c G H (wip vs ρ) (wipe σ vs) ∧ P G ∧ H Da = some (.lst us) ∧ G Da = none ∧ QA X.K c.ns G us ys ∧ ys.length ≤ i ∧ lcL b ft f (wip vs ρ) (xs.drop i) = some zs ∧ all = ys ++ zs
  refine ⟨fun i m H => i ≤ xs.length ∧ m = xs.length - i ∧ Inv' i H, ⟨xs.length, Nat.zero_le _, by simp, G1, [], [], all, Gr.own ok1.s hD, (ok1.wip vs).gr (Gr.own ok1.s hD), pG, upd_same, ok1.s.free hD, .nil, Nat.zero_le _, ha, rfl⟩, ?_⟩
  rintro i m H ⟨hi, rfl, G, us, ys, zs, gr, ok, pG, hd, gd, q, hl, hz', hall⟩
  by_cases hlt : i < xs.length
  · have ed : xs.drop i = xs[i] :: xs.drop (i + 1) := List.drop_eq_getElem_cons hlt
    have ex : xs[i]? = some xs[i] := List.getElem?_eq_getElem hlt
    rw [ed] at hz'
    refine .inr ⟨I.go G H i _ pG ok.s ex, Inv' (i + 1), fun H' n => ⟨xs.length - (i + 1), by omega, hlt, rfl, n⟩, fun x H' y => ?_⟩
    obtain ⟨G', gr', q'⟩ := I.yld G H i _ x H' pG ok.s ex y
    unfold lcL at hz'
    cases eb : b xs[i] (wip vs ρ) with
    | none => rw [eb] at hz'; cases hz'
    | some ρ1 =>
      rw [eb] at hz'
      dsimp only at hz'
      refine tk G' H' _ _ x _ ρ1 _ (ok.gr gr') q' eb fun σ2 ok2 hw => ⟨hw.trans (wipe_wipe vs fun _ z => z), ht _ _ _ ⟨G', ρ1, ok2, ?_⟩⟩
      cases et : ft ρ1 with
      | rz z => rw [et] at hz'; cases hz'
      | bad => rw [et] at hz'; cases hz'
      | ok bv =>
        intro G3 H3 v g3 r3
        subst r3
        have grT := (gr.trans gr').trans g3
        have pG3 := I.mono _ _ (gr'.g.trans g3.g) pG
        have okT := (ok.gr gr').gr g3
        have hd3 := g3.h.keep _ _ (gr'.h.keep _ _ hd nt_lst) nt_lst
        have gd3 := g3.n _ _ (gr'.h.keep _ _ hd nt_lst) nt_lst (gr'.n _ _ hd nt_lst gd)
        have q3 := QA.mono (gr'.g.trans g3.g) _ _ q
        cases v with
        | false =>
          rw [et] at hz'
          exact ⟨G3, us, ys, zs, grT, okT, pG3, hd3, gd3, q3, by omega, hz', hall⟩
        | true =>
          rw [et] at hz'
          dsimp only at hz'
          rw [if_pos rfl]
          refine he _ _ _ ⟨G3, ρ1, ok2.gr g3, ?_⟩
          cases ef : f ρ1 with
          | rz z => rw [ef] at hz'; cases hz'
          | bad => rw [ef] at hz'; cases hz'
          | ok y' =>
            rw [ef] at hz'
            dsimp only at hz'
            intro G4 H4 v4 g4 r4
            cases el : lcL b ft f (wip vs ρ) (xs.drop (i + 1)) with
            | none => rw [el] at hz'; cases hz'
            | some zs' =>
              rw [el] at hz'
              cases hz'
              have hd4 := g4.h.keep _ _ hd3 nt_lst
              have gd4 := g4.n _ _ hd3 nt_lst gd3
              have q4 := QA.mono g4.g _ _ q3
              refine ⟨us, hd4, szl (by rw [q4.length]; omega), G4, us ++ [v4], ys ++ [y'], zs', (grT.trans g4).poke nD hd4 gd4, (okT.gr g4).poke hd4 gd4 n0 ap, I.mono _ _ g4.g pG3, upd_same, gd4, q4.append (.cons r4 .nil), by simp; omega, el, by simp [hall]⟩
  · have e : i = xs.length := by omega
    subst e
    rw [List.drop_length] at hz'
    cases hz'
    rw [List.append_nil] at hall
    subst hall
    exact .inl ⟨I.stop G H pG ok.s, hq G H us gr nD hd gd q⟩
def yes : Rho → R Bool := cst true
theorem yes_ok {K : PySem.W.Frag} {σ : L2.St} {H : Hp} {Q : Bool → Hp → Prop} (h : tR K c W0 RelT yes σ H Q) : tYes σ H Q := by
  obtain ⟨G, ρ, ok, p⟩ := h
  exact p G H true (Gr.refl ok.s) rfl
/-- [e for .. in .. if ..], as data -/
theorem me_lc {elt tg iter : Expr} {ifs : List Expr} {scope : Scope} {own : List (Str × Nat)} {pos : Pos} {it : Rho → R (List D)} {g : TG} {b : D → Rho → Option Rho} {ft : Rho → R Bool} {f : Rho → R D} {tt : TT} (hc : X.calm = true) (hN : X.N.Nodup) (hi : MI X c W tg iter it) (okb : BlkOk X.N X.env.scope scope own)
    (hg : ∀ (s : Shared) (H : Hp) (C : Addr) (cl : List (Str × Addr)) (fp : List Addr), PG (X.blk s H scope (compEnvC scope cl C X.env) fp) tg g) (tk : TgOk X c (own.map (·.2)) g b) (ht : ∀ (s : Shared) (H : Hp) (C : Addr) (cl : List (Str × Addr)) (fp : List Addr), PTs (X.blk s H scope (compEnvC scope cl C X.env) fp) ifs tt) (htt : ∀ σ H Q, tR X.K c W0 RelT ft σ H Q → tt σ H Q)
    (he : ∀ (s : Shared) (H : Hp) (C : Addr) (cl : List (Str × Addr)) (fp : List Addr), ME (X.blk s H scope (compEnvC scope cl C X.env) fp) c W0 elt f) (hs : ∀ x, foldedSetIterable iter X.env x = pure x := by intro _; rfl) :
    ME X c W (.ListComp elt [⟨tg, iter, ifs, 0⟩] scope pos) (lcD (lcE (own.map (·.2)) it b ft f)) :=
  PE.imp (pe_lc hc hN hi okb hg ht he hs) fun σ H Qk ⟨G, ρ, ok, p⟩ => by
    refine ⟨G, ρ, ok, ?_⟩
    unfold lcD lcE at p
    cases e : it ρ with
    | bad => rw [e] at p; exact p.elim
    | rz z => rw [e] at p; exact p
    | ok xs =>
      rw [e] at p
      intro G1 H1 J P g1 I pG Da hD
      change Post W (RelQ X.K c.ns) G H σ Qk (R.bind (if xs.length ≤ 1000000 then R.of (lcL b ft f (wip (own.map (·.2)) ρ) xs) else .bad) _) at p
      by_cases hz : xs.length ≤ 1000000
      · rw [if_pos hz] at p
        cases ha : lcL b ft f (wip (own.map (·.2)) ρ) xs with
        | none => rw [ha] at p; exact p.elim
        | some all =>
          rw [ha] at p
          exact lc_walk rfl tk htt (fun _ _ _ z => z) I (ok.gr g1) pG hz ha hD fun G' H' us g' n hd gd q => p (upd G' Da (.lst us)) H' _ (g1.trans (g'.seal n hd gd)) (.lst upd_same (QA.mono (new_same gd) _ _ q))
      · rw [if_neg hz] at p; exact p.elim
/-- .. as a list of one's own -/
theorem mn_lc {elt tg iter : Expr} {ifs : List Expr} {scope : Scope} {own : List (Str × Nat)} {pos : Pos} {it : Rho → R (List D)} {g : TG} {b : D → Rho → Option Rho} {ft : Rho → R Bool} {f : Rho → R D} {tt : TT} (hc : X.calm = true) (hN : X.N.Nodup) (hi : MI X c W tg iter it) (okb : BlkOk X.N X.env.scope scope own)
    (hg : ∀ (s : Shared) (H : Hp) (C : Addr) (cl : List (Str × Addr)) (fp : List Addr), PG (X.blk s H scope (compEnvC scope cl C X.env) fp) tg g) (tk : TgOk X c (own.map (·.2)) g b) (ht : ∀ (s : Shared) (H : Hp) (C : Addr) (cl : List (Str × Addr)) (fp : List Addr), PTs (X.blk s H scope (compEnvC scope cl C X.env) fp) ifs tt) (htt : ∀ σ H Q, tR X.K c W0 RelT ft σ H Q → tt σ H Q)
    (he : ∀ (s : Shared) (H : Hp) (C : Addr) (cl : List (Str × Addr)) (fp : List Addr), ME (X.blk s H scope (compEnvC scope cl C X.env) fp) c W0 elt f) (hs : ∀ x, foldedSetIterable iter X.env x = pure x := by intro _; rfl) :
    MN X c W (.ListComp elt [⟨tg, iter, ifs, 0⟩] scope pos) (nO (lcE (own.map (·.2)) it b ft f)) :=
  PE.imp (pe_lc hc hN hi okb hg ht he hs) fun σ H Qk ⟨G, ρ, ok, p⟩ => by
    refine ⟨G, ρ, ok, ?_⟩
    unfold nO lcE at p
    cases e : it ρ with
    | bad => rw [e] at p; exact p.elim
    | rz z => rw [e] at p; exact p
    | ok xs =>
      rw [e] at p
      intro G1 H1 J P g1 I pG Da hD
      change PostN X.K c W G H σ Qk (R.bind (if xs.length ≤ 1000000 then R.of (lcL b ft f (wip (own.map (·.2)) ρ) xs) else .bad) _) at p
      by_cases hz : xs.length ≤ 1000000
      · rw [if_pos hz] at p
        cases ha : lcL b ft f (wip (own.map (·.2)) ρ) xs with
        | none => rw [ha] at p; exact p.elim
        | some all =>
          rw [ha] at p
          exact lc_walk rfl tk htt (fun _ _ _ z => z) I (ok.gr g1) pG hz ha hD fun G' H' us g' n hd gd q => p G' H' _ (g1.trans g') ⟨Da, us, rfl, hd, gd, n.of g1.h, q⟩
      · rw [if_neg hz] at p; exact p.elim
/-- y = [..] on one line -/
theorem ms_setLc {i : Nat} {y : Str} {py : Pos} {elt tg iter : Expr} {ifs : List Expr} {scope : Scope} {own : List (Str × Nat)} {pos spos : Pos} {it : Rho → R (List D)} {g : TG} {b : D → Rho → Option Rho} {ft : Rho → R Bool} {f : Rho → R D} {tt : TT} (hc : X.calm = true) (hN : X.N.Nodup) (hy : X.N[i]? = some y) (hyl : X.env.scope.names.lookup y = some .local)
    (hsw : swapsWith (.ListComp elt [⟨tg, iter, ifs, 0⟩] scope pos) (some (.Name y py)) spos.line X.env = pure true) (hi : MI X c W tg iter it) (okb : BlkOk X.N X.env.scope scope own)
    (hg : ∀ (s : Shared) (H : Hp) (C : Addr) (cl : List (Str × Addr)) (fp : List Addr), PG (X.blk s H scope (compEnvC scope cl C X.env) fp) tg g) (tk : TgOk X c (own.map (·.2)) g b) (ht : ∀ (s : Shared) (H : Hp) (C : Addr) (cl : List (Str × Addr)) (fp : List Addr), PTs (X.blk s H scope (compEnvC scope cl C X.env) fp) ifs tt) (htt : ∀ σ H Q, tR X.K c W0 RelT ft σ H Q → tt σ H Q)
    (he : ∀ (s : Shared) (H : Hp) (C : Addr) (cl : List (Str × Addr)) (fp : List Addr), ME (X.blk s H scope (compEnvC scope cl C X.env) fp) c W0 elt f) (hs : ∀ x, foldedSetIterable iter X.env x = pure x := by intro _; rfl) :
    MS X c W (.Assign [.Name y py] (.ListComp elt [⟨tg, iter, ifs, 0⟩] scope pos) spos) (sSet i (nO (lcE (own.map (·.2)) it b ft f))) :=
  PS.imp (ps_setLc hc hN hy hyl hsw hi okb hg ht he hs) fun De σ H ⟨G, ρ, ok, p⟩ => by
    refine ⟨G, ρ, ok, ?_⟩
    unfold sSet nO lcE at p
    cases e : it ρ with
    | bad => rw [e] at p; exact p.elim
    | rz z =>
      rw [e] at p
      exact fun G' H' g => p G' H' σ g.g (ok.gr g)
    | ok xs =>
      rw [e] at p
      intro G1 H1 J P g1 I pG Da hD
      change PostS X.K c W G De (R.out (R.bind (if xs.length ≤ 1000000 then R.of (lcL b ft f (wip (own.map (·.2)) ρ) xs) else .bad) _) ρ _) at p
      by_cases hz : xs.length ≤ 1000000
      · rw [if_pos hz] at p
        cases ha : lcL b ft f (wip (own.map (·.2)) ρ) xs with
        | none => rw [ha] at p; exact p.elim
        | some all =>
          rw [ha] at p
          exact lc_walk rfl tk htt (fun _ _ _ z => z) I (ok.gr g1) pG hz ha hD fun G' H' us g' n hd gd q => p G' H' _ (g1.g.trans g'.g) (ok.new (g1.trans g') i ⟨Da, us, rfl, hd, gd, n.of g1.h, q⟩)
      · rw [if_neg hz] at p; exact p.elim
end

/-! ### defs -/
def fnM (ar n : Nat) (body : Rho → Out) (ds : List D) : Out := if ds.length = ar then (match body (ds.map .d ++ List.replicate (n - ds.length) .no) with
  | .nx _ => .rt .none
  | .rt x => .rt x
  | .rf xs => .rf xs
  | .rz z _ => .rz z []
  | _ => .bad) else .bad
def fnM0 (ar n : Nat) (body : Rho → Out) (ds : List D) : Out := match fnM ar n body ds with
  | .rt x => .rt x
  | .rf xs => .rf xs
  | _ => .bad
def spM (K : PySem.W.Frag) (ns : Sc) (mg : Str → Option Value) (f : List D → Out) : Sp := fun vs H Qk E => ∃ G ds, Sub G H ∧ QA K ns G vs ds ∧ match f ds with
  | .rt x => ∀ G' H' v, Gr G H G' H' → Q K ns G' v x → Qk v H'
  | .rf xs => ∀ G' H' a us, Gr G H G' H' → Nw H a → H' a = some (.lst us) → G' a = none → QA K ns G' us xs → Qk (.ref a) H'
  | .rz z _ => ∀ G' H', Gr G H G' H' → ∀ C, mg z = some (.ref C) → E (.ref C) none H'
  | _ => False
theorem start_ok {K : PySem.W.Frag} {ns : Sc} {G H : Hp} {vs : List V} {ds : List D} {N : List Str} (s : Sub G H) (q : QA K ns G vs ds) : Ok K ⟨ns, G, H⟩ G H (ds.map .d ++ List.replicate (N.length - ds.length) .no) (start N vs) := by
  have hl := q.length
  refine ⟨s, Gr.refl s, by simp [L2.start, hl], fun i x e => ?_, fun i j a xs ys e1 e2 e3 e4 => ?_⟩
  · unfold L2.start
    by_cases hi : i < ds.length
    · rw [List.getElem?_append_left (by simpa using hi), List.getElem?_map] at e
      cases ed : ds[i]? with
      | none => rw [ed] at e; cases e
      | some d =>
        rw [ed] at e
        cases e
        obtain ⟨v, ev, qv⟩ := q.get ed
        rw [List.getElem?_append_left (by simp; omega), List.getElem?_map, ev]
        exact ⟨v, rfl, qv⟩
    · rw [List.getElem?_append_right (by simpa using hi)] at e
      have := List.mem_of_getElem? e
      rw [List.mem_replicate] at this
      rw [this.2]
      trivial
  · by_cases hi : i < ds.length
    · rw [List.getElem?_append_left (by simpa using hi), List.getElem?_map] at e1
      cases ed : ds[i]? with
      | none => rw [ed] at e1; cases e1
      | some d => rw [ed] at e1; cases e1
    · rw [List.getElem?_append_right (by simpa using hi)] at e1
      have := List.mem_of_getElem? e1
      rw [List.mem_replicate] at this
      cases this.2
/-- a def out of which nothing is raised -/
theorem fnOk {P : Program} {w : World} {K : PySem.W.Frag} {mg : Str → Option Value} {base : Heap} {x qual : Str} {st : Stmt} {f : Addr} {fd : FuncData} {N ps : List Str} {k : Nat} {ns : Sc} {body : Rho → Out} (F : Fun K x qual st f fd) (S : FnScope N ps (defScope st))
    (hb : ∀ (cdv : Value) (A : Around) (outer : List Env) (s : Shared) (H : Hp) (E : XK) (c : Cm), c.ns = ns → Room k (A.deeper (envOfC qual (defScope st) s.heap.objs.size f cdv)) → MSs (cxOf CX0 P w K mg base N qual (defScope st) f cdv A outer s H E).nox c W0 (defBody st) body) :
    FnOk P w K mg base CX0 (k + 1) f fd ps (spM K ns mg (fnM0 ps.length N.length body)) := by
  refine F.ok S (fun vs H Qk E h => ?_) (fun cdv A outer s H vs Qk E hr h => ?_)
  · obtain ⟨G, ds, s, q, h⟩ := h
    unfold fnM0 fnM at h
    by_cases hl : ds.length = ps.length
    · rw [q.length, hl]
    · rw [if_neg hl] at h; exact h.elim
  · obtain ⟨G, ds, s', q, h⟩ := h
    refine ⟨_, hb cdv A outer s H E ⟨ns, G, H⟩ rfl hr, G, _, start_ok s' q, ?_⟩
    unfold fnM0 fnM at h
    by_cases hl : ds.length = ps.length
    · rw [if_pos hl] at h
      cases e : body (ds.map .d ++ List.replicate (N.length - ds.length) .no) with
      | nx ρ =>
        rw [e] at h
        exact fun G' H' σ s ok => h G' H' _ ok.e .non
      | rt x => rw [e] at h; exact fun G' H' v g q => h G' H' v g q
      | rf x => rw [e] at h; exact fun G' H' a us g n h1 h2 q => h G' H' a us g n h1 h2 q
      | rz z ρ => rw [e] at h; exact h.elim
      | bk ρ => rw [e] at h; exact h.elim
      | ct ρ => rw [e] at h; exact h.elim
      | bad => rw [e] at h; exact h.elim
    · rw [if_neg hl] at h; exact h.elim

/-! ### calls -/
def Out.r : Out → R D
  | .rt x => .ok x
  | .rf xs => .ok (.list xs)
  | .rz z _ => .rz z
  | _ => .bad
def Out.s : Out → R Sl
  | .rt x => .ok (.d x)
  | .rf xs => .ok (.o xs)
  | .rz z _ => .rz z
  | _ => .bad
def call (f : List D → Out) (g : Rho → R (List D)) : Rho → R D := fun ρ => (g ρ).bind fun ds => (f ds).r
def ncall (f : List D → Out) (g : Rho → R (List D)) : Rho → R Sl := fun ρ => (g ρ).bind fun ds => (f ds).s
section
variable {X : Cx} {c : Cm}
theorem me_call {k : Nat} {fa : Addr} {fd : FuncData} {ps : List Str} {x : Str} {p pos : Pos} {e : Expr} {es : List Expr} {f : List D → Out} {g : Rho → R (List D)} (F : FnOk X.prog X.w X.K X.mg X.base CX0 k fa fd ps (spM X.K c.ns X.mg f)) (hr : Room k X.A) (hg : Gl X x) (hm : X.mg x = some (.ref fa)) (hk : PySem.W.keepIn X.K (.ref fa) = true) (hb : Binds X.K fd ps [])
    (ha : MA X c W0 (e :: es) g) (hdb : (x == ("__debug__" : Str)) = false := by decide) (he : starEach (e :: es) X.env = (false, eval e X.env) :: starEach es X.env := by rfl) (hpl : (backTo pos (starEach es X.env)).any (·.1) = false := by rfl) :
    ME X c W0 (.Call (.Name x p) (e :: es) [] pos) (call f g) :=
  PE.imp (pe_call F hr hg hm hk hb .nil pass0 ha hdb he hpl) fun σ H Qk ⟨G, ρ, ok, p⟩ => step ok p fun ds G1 H1 vs _ g1 r1 ok1 p1 => by
    show spM X.K c.ns X.mg f (vs ++ []) H1 Qk E0
    rw [List.append_nil]
    refine ⟨G1, ds, ok1.s, r1, ?_⟩
    cases e : f ds with
    | rt x => rw [e] at p1; exact p1
    | rf xs =>
      rw [e] at p1
      exact fun G' H' a us g n h1 h2 q => p1 (upd G' a (.lst us)) H' _ (g.seal n h1 h2) (.lst upd_same (QA.mono (new_same h2) _ _ q))
    | rz z ρ' => rw [e] at p1; exact fun G' H' g C _ => p1 G' H' g
    | _ => rw [e] at p1; exact p1.elim
theorem mn_call {k : Nat} {fa : Addr} {fd : FuncData} {ps : List Str} {x : Str} {p pos : Pos} {e : Expr} {es : List Expr} {f : List D → Out} {g : Rho → R (List D)} (F : FnOk X.prog X.w X.K X.mg X.base CX0 k fa fd ps (spM X.K c.ns X.mg f)) (hr : Room k X.A) (hg : Gl X x) (hm : X.mg x = some (.ref fa)) (hk : PySem.W.keepIn X.K (.ref fa) = true) (hb : Binds X.K fd ps [])
    (ha : MA X c W0 (e :: es) g) (hdb : (x == ("__debug__" : Str)) = false := by decide) (he : starEach (e :: es) X.env = (false, eval e X.env) :: starEach es X.env := by rfl) (hpl : (backTo pos (starEach es X.env)).any (·.1) = false := by rfl) :
    MN X c W0 (.Call (.Name x p) (e :: es) [] pos) (ncall f g) :=
  PE.imp (pe_call F hr hg hm hk hb .nil pass0 ha hdb he hpl) fun σ H Qk ⟨G, ρ, ok, p⟩ => stepN ok p fun ds G1 H1 vs _ g1 r1 ok1 p1 => by
    show spM X.K c.ns X.mg f (vs ++ []) H1 Qk E0
    rw [List.append_nil]
    refine ⟨G1, ds, ok1.s, r1, ?_⟩
    cases e : f ds with
    | rt x => rw [e] at p1; exact fun G' H' v g q => p1 G' H' v g q
    | rf xs =>
      rw [e] at p1
      exact fun G' H' a us g n h1 h2 q => p1 G' H' _ g ⟨a, us, rfl, h1, h2, n, q⟩
    | rz z ρ' => rw [e] at p1; exact fun G' H' g C _ => p1 G' H' g
    | _ => rw [e] at p1; exact p1.elim
end

/-! ### a, b = x, y -/
def sPar (i j : Nat) (f g : Rho → R Sl) : Rho → Out := fun ρ => (f ρ).out ρ fun s => (g ρ).out ρ fun t => .nx ((ρ.set i s).set j t)
def sPar3 (i j l : Nat) (f g h : Rho → R Sl) : Rho → Out := fun ρ => (f ρ).out ρ fun s => (g ρ).out ρ fun t => (h ρ).out ρ fun u => .nx (((ρ.set i s).set j t).set l u)
section
variable {X : Cx} {c : Cm} {W : WM}
/-- a value that waits to be stored, kept while another one is made -/
theorem two {K : PySem.W.Frag} {G H G1 H1 G2 H2 : Hp} {ρ : Rho} {σ : L2.St} {i j : Nat} {v w : V} {s t : Sl} (ok : Ok K c G H ρ σ) (g1 : Gr G H G1 H1) (r1 : NwSl K c H G1 H1 v s) (g2 : Gr G1 H1 G2 H2) (r2 : NwSl K c H1 G2 H2 w t) (hij : i ≠ j) :
    Ok K c G2 H2 ((ρ.set i s).set j t) ((σ.set i (some v)).set j (some w)) := by
  have ok1 := ok.new g1 i r1
  exact ok1.new g2 j r2
end
end M

namespace M
open PySem PySem.Spec PyProof.Rows L2

section
variable {X : Cx} {c : Cm} {W : WM}
/-! ### a, b = x, y -/
theorem ms_par {i j : Nat} {x y : Str} {a b : Expr} {f g : Rho → R Sl} {px py pt pos : Pos} {kt k2 pt2} (hc : X.calm = true) (hN : X.N.Nodup) (hi : X.N[i]? = some x) (hj : X.N[j]? = some y) (hij : i ≠ j)
    (hx : X.env.scope.names.lookup x = some .local) (hy : X.env.scope.names.lookup y = some .local) (ha : MN X c W a f) (hb : MN X c W b g)
    (hw : swappedStores [.Tuple [.Name x px, .Name y py] kt pt] (.Tuple [a, b] k2 pt2) X.env = pure (some [x, y]))
    (hs : swapsWithSole [.Tuple [.Name x px, .Name y py] kt pt] (.Tuple [a, b] k2 pt2) pos.line X.env = pure false := by rfl) (s1 : starEach [a, b] X.env = (false, eval a X.env) :: starEach [b] X.env := by rfl) (s2 : starEach [b] X.env = (false, eval b X.env) :: starEach [] X.env := by rfl) :
    MS X c W (.Assign [.Tuple [.Name x px, .Name y py] kt pt] (.Tuple [a, b] k2 pt2) pos) (sPar i j f g) :=
  PS.imp (ps_par hc hN hi hj hij hx hy (pa_cons ha (pa_cons hb pa_nil s2) s1) hw hs) fun De σ H ⟨G, ρ, ok, p⟩ => stepSN ok p fun s G1 H1 v _ g1 r1 ok1 p1 => stepSN ok1 p1 fun t G2 H2 w _ g2 r2 ok2 p2 =>
    ⟨v, w, rfl, p2 G2 H2 _ (Same.refl G2) ((ok.new g1 i r1).new g2 j r2)⟩
theorem ms_par3 {i j l : Nat} {x y z : Str} {a b d : Expr} {f g h : Rho → R Sl} {px py pz pt pos : Pos} {kt k2 pt2} (hc : X.calm = true) (hN : X.N.Nodup) (hi : X.N[i]? = some x) (hj : X.N[j]? = some y) (hl : X.N[l]? = some z) (hij : i ≠ j) (hil : i ≠ l) (hjl : j ≠ l)
    (hx : X.env.scope.names.lookup x = some .local) (hy : X.env.scope.names.lookup y = some .local) (hz : X.env.scope.names.lookup z = some .local) (ha : MN X c W a f) (hb : MN X c W b g) (hd : MN X c W d h)
    (hw : swappedStores [.Tuple [.Name x px, .Name y py, .Name z pz] kt pt] (.Tuple [a, b, d] k2 pt2) X.env = pure (some [x, y, z]))
    (hs : swapsWithSole [.Tuple [.Name x px, .Name y py, .Name z pz] kt pt] (.Tuple [a, b, d] k2 pt2) pos.line X.env = pure false := by rfl) (s1 : starEach [a, b, d] X.env = (false, eval a X.env) :: starEach [b, d] X.env := by rfl) (s2 : starEach [b, d] X.env = (false, eval b X.env) :: starEach [d] X.env := by rfl) (s3 : starEach [d] X.env = (false, eval d X.env) :: starEach [] X.env := by rfl) :
    MS X c W (.Assign [.Tuple [.Name x px, .Name y py, .Name z pz] kt pt] (.Tuple [a, b, d] k2 pt2) pos) (sPar3 i j l f g h) :=
  PS.imp (ps_par3 hc hN hi hj hl hij hil hjl hx hy hz (pa_cons ha (pa_cons hb (pa_cons hd pa_nil s3) s2) s1) hw hs) fun De σ H ⟨G, ρ, ok, p⟩ => stepSN ok p fun s G1 H1 v _ g1 r1 ok1 p1 => stepSN ok1 p1 fun t G2 H2 w _ g2 r2 ok2 p2 => stepSN ok2 p2 fun u G3 H3 w3 _ g3 r3 ok3 p3 =>
    ⟨v, w, w3, rfl, p3 G3 H3 _ (Same.refl G3) (((ok.new g1 i r1).new g2 j r2).new g3 l r3)⟩
/-! ### x = e, e a target of several names -/
def sUnp (b : D → Rho → Option Rho) (f : Rho → R D) : Rho → Out := fun ρ => (f ρ).out ρ fun d => match b d ρ with
  | some ρ' => .nx ρ'
  | none => .bad
theorem ms_unp {tg e : Expr} {f : Rho → R D} {g : TG} {b : D → Rho → Option Rho} {vs : List Nat} {pos : Pos} (he : ME X c W e f) (hg : PG X tg g) (tk : TgOk X c vs g b) (hs : swapsWithSole [tg] e pos.line X.env = pure false := by rfl) (hw : swappedStores [tg] e X.env = pure none := by rfl)
    (h1 : (assignEach [tg] X.env).map (·.2) = [assign tg X.env] := by rfl) : MS X c W (.Assign [tg] e pos) (sUnp b f) :=
  PS.imp (ps_asg he hg hs hw h1) fun De σ H ⟨G, ρ, ok, p⟩ => stepS ok p fun d G1 H1 v _ g1 r1 ok1 p1 => by
    cases eb : b d ρ with
    | none => rw [eb] at p1; exact p1.elim
    | some ρ' =>
      rw [eb] at p1
      exact tk G1 H1 σ ρ v d ρ' _ ok1 r1 eb fun σ' ok' _ => p1 G1 H1 σ' (Same.refl G1) ok'
/-! ### chains -/
def chE (o o' : D → D → Option Bool) (f g h : Rho → R D) : Rho → R Bool := fun ρ => (f ρ).bind fun x => (g ρ).bind fun y => (R.of (o x y)).bind fun b => if b then (h ρ).bind fun z => R.of (o' y z) else .ok false
theorem mt_chain {op op' : CmpOp} {r r' : R2} {o o' : D → D → Option Bool} {a b d : Expr} {f g h : Rho → R D} {pos : Pos} (ho : OpR X (compareOp op) r) (ho' : OpR X (compareOp op') r') (hr : CmD X c.ns r o) (hr' : CmD X c.ns r' o') (ha : MB X c W a f) (hb : MB X c W b g) (hd : MB X c W d h)
    (hm : lastMarks [op, op'] [b, d] = false := by with_unfolding_all rfl) : MT X c W (.Compare a [op, op'] [b, d] pos) (chE o o' f g h) :=
  PT.imp (pt_chain ho ho' ha hb hd hm) fun σ H Qk ⟨G, ρ, ok, p⟩ => step ok p fun x G1 H1 v _ g1 r1 ok1 p1 => step ok1 p1 fun y G2 H2 w _ g2 r2 ok2 p2 => by
    cases e : o x y with
    | none => rw [e] at p2; exact p2.elim
    | some k =>
      rw [e] at p2
      refine hr G2 H2 v w x y k _ e ok2.s (r1.gr g2) r2 fun G3 H3 g3 => ⟨k, rfl, ?_⟩
      have p3 := p2.gr g3
      cases k with
      | false => exact ⟨false, rfl, p3 G3 H3 false (Gr.refl g3.s) rfl⟩
      | true =>
        refine step (ok2.gr g3) p3 fun z G4 H4 u _ g4 r4 ok4 p4 => ?_
        cases e' : o' y z with
        | none => rw [e'] at p4; exact p4.elim
        | some k' =>
          rw [e'] at p4
          exact hr' G4 H4 w u y z k' _ e' ok4.s ((r2.gr g3).gr g4) r4 fun G5 H5 g5 => ⟨k', rfl, p4 G5 H5 k' g5 rfl⟩
theorem me_chain {op op' : CmpOp} {r r' : R2} {o o' : D → D → Option Bool} {a b d : Expr} {f g h : Rho → R D} {pos : Pos} (ho : OpR X (compareOp op) r) (ho' : OpR X (compareOp op') r') (hr : CmD X c.ns r o) (hr' : CmD X c.ns r' o') (ha : MB X c W a f) (hb : MB X c W b g) (hd : MB X c W d h)
    (hm : lastMarks [op, op'] [b, d] = false := by with_unfolding_all rfl) : ME X c W (.Compare a [op, op'] [b, d] pos) (bv (chE o o' f g h)) :=
  PE.imp (pe_chain ho ho' ha hb hd hm) fun σ H Qk ⟨G, ρ, ok, p⟩ => by
    have e0 : bv (chE o o' f g h) ρ = (f ρ).bind fun x => (g ρ).bind fun y => (R.of (o x y)).bind fun b => if b then (h ρ).bind fun z => (R.of (o' y z)).bind fun b => .ok (.bool b) else .ok (.bool false) := by
      unfold bv chE
      cases f ρ with
      | ok x =>
        cases g ρ with
        | ok y =>
          show ((R.of (o x y)).bind _).bind _ = (R.of (o x y)).bind _
          cases o x y with
          | none => rfl
          | some k =>
            cases k with
            | false => rfl
            | true =>
              show ((h ρ).bind _).bind _ = (h ρ).bind _
              cases h ρ <;> rfl
        | _ => rfl
      | _ => rfl
    rw [e0] at p
    refine step ok p fun x G1 H1 v _ g1 r1 ok1 p1 => step ok1 p1 fun y G2 H2 w _ g2 r2 ok2 p2 => ?_
    cases e : o x y with
    | none => rw [e] at p2; exact p2.elim
    | some k =>
      rw [e] at p2
      refine hr G2 H2 v w x y k _ e ok2.s (r1.gr g2) r2 fun G3 H3 g3 => ⟨k, rfl, ?_⟩
      have p3 := p2.gr g3
      cases k with
      | false => exact p3 G3 H3 _ (Gr.refl g3.s) (.bl false)
      | true =>
        refine step (ok2.gr g3) p3 fun z G4 H4 u _ g4 r4 ok4 p4 => ?_
        cases e' : o' y z with
        | none => rw [e'] at p4; exact p4.elim
        | some k' =>
          rw [e'] at p4
          exact hr' G4 H4 w u y z k' _ e' ok4.s ((r2.gr g3).gr g4) r4 fun G5 H5 g5 => p4 G5 H5 _ g5 (.bl k')

/-! ### what a new object is -/
theorem newL {K : PySem.W.Frag} {ns : Sc} {G H : Hp} {us : List V} {ds : List D} {d : D} (s : Sub G H) (q : QA K ns G us ds) (e : d = .list ds) {Qk : VK} (k : ∀ G' H' u, Gr G H G' H' → Q K ns G' u d → Qk u H') : ∀ p, H p = none → Qk (.ref p) (upd H p (.lst us)) := fun p hp => by
  subst e
  exact k _ _ _ (Gr.new s hp nt_lst) (.lst upd_same (QA.mono (new_same (s.free hp)) _ _ q))
theorem newT {K : PySem.W.Frag} {ns : Sc} {G H : Hp} {us : List V} {ds : List D} {d : D} (s : Sub G H) (q : QA K ns G us ds) (e : d = .tuple ds) {Qk : VK} (k : ∀ G' H' u, Gr G H G' H' → Q K ns G' u d → Qk u H') : ∀ p, H p = none → Qk (.ref p) (upd H p (.tup us)) := fun p hp => by
  subst e
  exact k _ _ _ (Gr.new s hp nt_tup) (.tup (.inl (.inl upd_same)) (QA.mono (new_same (s.free hp)) _ _ q))
/-! ### + -/
def addD : D → D → Option D
  | .int i, .int j => some (.int (i + j))
  | .str x, .str y => if x.length + y.length ≤ 1000000 then some (.str (x ++ y)) else none
  | .list xs, .list ys => if xs.length + ys.length ≤ 1000000 then some (.list (xs ++ ys)) else none
  | .tuple xs, .tuple ys => if xs.length + ys.length ≤ 1000000 then some (.tuple (xs ++ ys)) else none
  | _, _ => none
theorem opr_add : OpR X (binaryOp .Add) (fun x y H Q => rI0 (fun i j => .int (i + j)) x y H Q ∨ (∃ i j, x = .str i ∧ y = .str j ∧ i.length + j.length ≤ sizeLine ∧ Q (.str (i ++ j)) H) ∨ rCat x y H Q ∨ rCatA X.K x y H Q) := op_add.or (op_add_str.or (op_cat.or op_catA))
theorem opd_add : OpD X c.ns (fun x y H Q => rI0 (fun i j => .int (i + j)) x y H Q ∨ (∃ i j, x = .str i ∧ y = .str j ∧ i.length + j.length ≤ sizeLine ∧ Q (.str (i ++ j)) H) ∨ rCat x y H Q ∨ rCatA X.K x y H Q) addD := fun G H v w x y d Qk e s b1 b2 k => by
  unfold addD at e
  split at e
  · cases e
    obtain rfl := b1.int
    obtain rfl := b2.int
    exact .inl ⟨_, _, rfl, rfl, k G H _ (Gr.refl s) (.int _)⟩
  · split at e
    · rename_i hl
      cases e
      obtain rfl := b1.str
      obtain rfl := b2.str
      exact .inr (.inl ⟨_, _, rfl, rfl, sz hl, k G H _ (Gr.refl s) (.str _)⟩)
    · cases e
  · split at e
    · rename_i hl
      cases e
      obtain ⟨a, us, rfl, h1, q1⟩ := b1.list s
      obtain ⟨b, ws, rfl, h2, q2⟩ := b2.list s
      exact .inr (.inr (.inl ⟨a, b, us, ws, rfl, rfl, h1, h2, by rw [q1.length, q2.length]; exact sz hl, newL s (q1.append q2) rfl k⟩))
    · cases e
  · split at e
    · rename_i hl
      cases e
      obtain ⟨a, us, rfl, h1, q1, g1⟩ := b1.tuple s
      obtain ⟨b, ws, rfl, h2, q2, g2⟩ := b2.tuple s
      refine .inr (.inr (.inr ⟨a, b, us, ws, rfl, rfl, h1, h2, by rw [q1.length, q2.length]; exact sz hl, fun z => ?_, fun z1 z2 => ?_, fun z1 z2 => newT s (q1.append q2) rfl k⟩))
      · subst z
        cases q1
        exact k G H _ (Gr.refl s) (.tup g2 q2)
      · subst z2
        cases q2
        rw [List.append_nil] at k
        exact k G H _ (Gr.refl s) (.tup g1 q1)
    · cases e
  · cases e
/-! ### - * // % -/
def subD : D → D → Option D
  | .int i, .int j => some (.int (i - j))
  | _, _ => none
theorem opd_sub : OpD X c.ns (rI0 fun i j => .int (i - j)) subD := fun G H v w x y d Qk e s b1 b2 k => by
  unfold subD at e
  split at e
  · cases e
    obtain rfl := b1.int
    obtain rfl := b2.int
    exact ⟨_, _, rfl, rfl, k G H _ (Gr.refl s) (.int _)⟩
  · cases e
def rep {α : Type} (n : Nat) (xs : List α) : List α := (List.replicate n xs).flatten
theorem QA.rep {K : PySem.W.Frag} {ns : Sc} {G : Hp} {us : List V} {ds : List D} (q : QA K ns G us ds) : ∀ n : Nat, QA K ns G (List.replicate n us).flatten (M.rep n ds)
  | 0 => .nil
  | n + 1 => by
    unfold M.rep
    rw [List.replicate_succ, List.flatten_cons, List.replicate_succ, List.flatten_cons]
    exact q.append (QA.rep q n)
def mulD : D → D → Option D
  | .int i, .int j => if (-18446744073709551616 < i ∧ i < 18446744073709551616) ∨ (-18446744073709551616 < j ∧ j < 18446744073709551616) then some (.int (i * j)) else none
  | .list xs, .int k => if k ≤ 1000000 ∧ -1000000 ≤ k ∧ xs.length * k.toNat ≤ 1000000 then some (.list (rep k.toNat xs)) else none
  | .tuple xs, .int k => if xs ≠ [] ∧ 2 ≤ k ∧ k ≤ 1000 ∧ xs.length ≤ 1000 then some (.tuple (rep k.toNat xs)) else none
  | _, _ => none
theorem opr_mul : OpR X (binaryOp .Mult) (fun x y H Q => rI CMul (fun i j => .int (i * j)) x y H Q ∨ rRep x y H Q ∨ rRepT X.K x y H Q) := op_mul.or (op_rep.or op_repT)
theorem opd_mul : OpD X c.ns (fun x y H Q => rI CMul (fun i j => .int (i * j)) x y H Q ∨ rRep x y H Q ∨ rRepT X.K x y H Q) mulD := fun G H v w x y d Qk e s b1 b2 k => by
  unfold mulD at e
  split at e
  · split at e
    · rename_i hc
      cases e
      obtain rfl := b1.int
      obtain rfl := b2.int
      exact .inl ⟨_, _, rfl, rfl, hc, k G H _ (Gr.refl s) (.int _)⟩
    · cases e
  · split at e
    · rename_i hc
      cases e
      obtain ⟨a, us, rfl, h1, q1⟩ := b1.list s
      obtain rfl := b2.int
      exact .inr (.inl ⟨a, _, us, rfl, rfl, h1, by omega, by omega, by rw [q1.length]; exact sz hc.2.2, newL s (q1.rep _) rfl k⟩)
    · cases e
  · split at e
    · rename_i hc
      cases e
      obtain ⟨a, us, rfl, h1, q1, g1⟩ := b1.tuple s
      obtain rfl := b2.int
      exact .inr (.inr ⟨a, _, us, rfl, rfl, h1, fun z => hc.1 (by subst z; cases q1; rfl), hc.2.1, hc.2.2.1, by rw [q1.length]; exact hc.2.2.2, newT s (q1.rep _) rfl k⟩)
    · cases e
  · cases e
def fdivD : D → D → Option D
  | .int i, .int j => if 0 < j ∧ j < 1073741824 then some (.int (i / j)) else none
  | _, _ => none
theorem opd_fdiv : OpD X c.ns (rI CDiv fun i j => .int (i / j)) fdivD := fun G H v w x y d Qk e s b1 b2 k => by
  unfold fdivD at e
  split at e
  · split at e
    · rename_i hc
      cases e
      obtain rfl := b1.int
      obtain rfl := b2.int
      exact ⟨_, _, rfl, rfl, hc, k G H _ (Gr.refl s) (.int _)⟩
    · cases e
  · cases e
def modD : D → D → Option D
  | .int i, .int j => if 0 < j then some (.int (i % j)) else none
  | _, _ => none
theorem opd_mod : OpD X c.ns (rI (fun _ j => 0 < j) fun i j => .int (i % j)) modD := fun G H v w x y d Qk e s b1 b2 k => by
  unfold modD at e
  split at e
  · split at e
    · rename_i hc
      cases e
      obtain rfl := b1.int
      obtain rfl := b2.int
      exact ⟨_, _, rfl, rfl, hc, k G H _ (Gr.refl s) (.int _)⟩
    · cases e
  · cases e
def negD : D → Option D
  | .int i => some (.int (-i))
  | _ => none
theorem me_neg {a : Expr} {f : Rho → R D} {pos : Pos} (ha : MB X c W a f) : ME X c W (.UnaryOp .USub a pos) (e1 negD f) :=
  PE.imp (pe_un un_neg ha) fun σ H Qk ⟨G, ρ, ok, p⟩ => step ok p fun x G1 H1 v _ g1 r1 ok1 p1 => by
    cases x with
    | int i =>
      obtain rfl := r1.int
      exact ⟨i, rfl, p1 G1 H1 _ (Gr.refl ok1.s) (.int _)⟩
    | _ => exact p1.elim
/-! ### < <= > >= -/
def ltD : D → D → Option Bool
  | .int i, .int j => some (decide (i < j))
  | _, _ => none
def leD : D → D → Option Bool
  | .int i, .int j => some (decide (i ≤ j))
  | _, _ => none
def gtD : D → D → Option Bool
  | .int i, .int j => some (decide (j < i))
  | _, _ => none
def geD : D → D → Option Bool
  | .int i, .int j => some (decide (j ≤ i))
  | _, _ => none
theorem cmd_lt : CmD X c.ns (rI0 fun i j => .bl (decide (i < j))) ltD := fun G H v w x y d Qk e s b1 b2 k => by
  unfold ltD at e
  split at e
  · cases e
    obtain rfl := b1.int
    obtain rfl := b2.int
    exact ⟨_, _, rfl, rfl, k G H (Gr.refl s)⟩
  · cases e
theorem cmd_le : CmD X c.ns (rI0 fun i j => .bl (decide (i ≤ j))) leD := fun G H v w x y d Qk e s b1 b2 k => by
  unfold leD at e
  split at e
  · cases e
    obtain rfl := b1.int
    obtain rfl := b2.int
    exact ⟨_, _, rfl, rfl, k G H (Gr.refl s)⟩
  · cases e
theorem cmd_gt : CmD X c.ns (rI0 fun i j => .bl (decide (j < i))) gtD := fun G H v w x y d Qk e s b1 b2 k => by
  unfold gtD at e
  split at e
  · cases e
    obtain rfl := b1.int
    obtain rfl := b2.int
    exact ⟨_, _, rfl, rfl, k G H (Gr.refl s)⟩
  · cases e
theorem cmd_ge : CmD X c.ns (rI0 fun i j => .bl (decide (j ≤ i))) geD := fun G H v w x y d Qk e s b1 b2 k => by
  unfold geD at e
  split at e
  · cases e
    obtain rfl := b1.int
    obtain rfl := b2.int
    exact ⟨_, _, rfl, rfl, k G H (Gr.refl s)⟩
  · cases e
/-! ### == != -/
mutual
theorem Q.dp {K : PySem.W.Frag} {ns : Sc} {G H : Hp} (s : Same G H) : ∀ (d : D) (v : V), d.canLay0 = true → Q K ns G v d → Dp K H v d
  | .none, _, _, h => by cases h; exact .non
  | .bool _, _, _, h => by cases h; exact .bl _
  | .int _, _, _, h => by cases h; exact .int _
  | .str _, _, _, h => by cases h; exact .str _
  | .list ds, _, l, h => by cases h with | lst h1 h2 => exact .lst (SqL.of (s _ _ h1)) (QA.dp s ds _ (by simpa [PyData.canLay0] using l) h2)
  | .tuple ds, _, l, h => by cases h with | tup h1 h2 => exact .tup (SqT.same s h1) (QA.dp s ds _ (by simpa [PyData.canLay0] using l) h2)
  | .dict _, _, l, h => by simp [PyData.canLay0] at l
theorem QA.dp {K : PySem.W.Frag} {ns : Sc} {G H : Hp} (s : Same G H) : ∀ (ds : List D) (vs : List V), PyData.canLayAll0 ds = true → QA K ns G vs ds → DpAll K H vs ds
  | [], _, _, h => by cases h; exact .nil
  | d :: ds, _, l, h => by
    cases h with
    | cons h1 h2 =>
      have l' : d.canLay0 = true ∧ PyData.canLayAll0 ds = true := by simpa [PyData.canLayAll0] using l
      exact .cons (Q.dp s d _ l'.1 h1) (QA.dp s ds _ l'.2 h2)
end
theorem B.dp {K : PySem.W.Frag} {ns : Sc} {G H : Hp} {v : V} {d : D} (b : B K ns G H v d) (s : Sub G H) (l : SeqAt.shaped d = true) : Dp K H v d := by
  have l' := SeqAt.canLay_of_shaped l
  rcases b with q | ⟨a, us, ds, rfl, rfl, h, q⟩
  · exact Q.dp s.same d v l' q
  · exact .lst (SqL.of h) (QA.dp s.same ds us (by simpa [PyData.canLay0] using l') q)
def eqD (x y : D) : Option Bool := if (SeqAt.shaped x && SeqAt.shaped y) = true then some (PyData.eqv x y) else none
def neD (x y : D) : Option Bool := if (SeqAt.shaped x && SeqAt.shaped y) = true then some (!PyData.eqv x y) else none
theorem cmd_eq : CmD X c.ns (rEqD X.K) eqD := fun G H v w x y d Qk e s b1 b2 k => by
  unfold eqD at e
  split at e
  · rename_i h
    cases e
    have h' := Bool.and_eq_true_iff.mp h
    exact ⟨x, y, b1.dp s h'.1, b2.dp s h'.2, h'.1, h'.2, k G H (Gr.refl s)⟩
  · cases e
theorem cmd_ne : CmD X c.ns (rNeD X.K) neD := fun G H v w x y d Qk e s b1 b2 k => by
  unfold neD at e
  split at e
  · rename_i h
    cases e
    have h' := Bool.and_eq_true_iff.mp h
    exact ⟨x, y, b1.dp s h'.1, b2.dp s h'.2, h'.1, h'.2, k G H (Gr.refl s)⟩
  · cases e
/-! ### is -/
def isNone : D → Bool
  | .none => true
  | _ => false
def isD : D → D → Option Bool
  | x, .none => some (isNone x)
  | .bool a, .bool b => some (decide (a = b))
  | _, _ => none
def isntD : D → D → Option Bool
  | x, .none => some (!isNone x)
  | .bool a, .bool b => some (!decide (a = b))
  | _, _ => none
theorem none_of {K : PySem.W.Frag} {ns : Sc} {G H : Hp} {v : V} {d : D} (b : B K ns G H v d) : decide (v = .non) = isNone d := by
  rcases b with q | ⟨a, us, ds, rfl, rfl, h, q⟩
  · cases q <;> rfl
  · rfl
theorem opr_is : OpR X (compareOp .Is) (fun x y H Q => (y = .non ∧ Q (.bl (decide (x = .non))) H) ∨ rIsB x y H Q) := op_isN.or op_isBl
theorem opr_isnt : OpR X (compareOp .IsNot) (fun x y H Q => (y = .non ∧ Q (.bl (!decide (x = .non))) H) ∨ rNotB x y H Q) := op_notN.or op_notBl
theorem cmd_is : CmD X c.ns (fun x y H Q => (y = .non ∧ Q (.bl (decide (x = .non))) H) ∨ rIsB x y H Q) isD := fun G H v w x y d Qk e s b1 b2 k => by
  unfold isD at e
  split at e
  · cases e
    refine .inl ⟨b2.none, ?_⟩
    rw [none_of b1]
    exact k G H (Gr.refl s)
  · cases e
    obtain rfl := b1.bool
    obtain rfl := b2.bool
    exact .inr ⟨_, _, rfl, rfl, k G H (Gr.refl s)⟩
  · cases e
theorem cmd_isnt : CmD X c.ns (fun x y H Q => (y = .non ∧ Q (.bl (!decide (x = .non))) H) ∨ rNotB x y H Q) isntD := fun G H v w x y d Qk e s b1 b2 k => by
  unfold isntD at e
  split at e
  · cases e
    refine .inl ⟨b2.none, ?_⟩
    rw [none_of b1]
    exact k G H (Gr.refl s)
  · cases e
    obtain rfl := b1.bool
    obtain rfl := b2.bool
    exact .inr ⟨_, _, rfl, rfl, k G H (Gr.refl s)⟩
  · cases e
/-! ### x[i] -/
def ixD : D → D → Option D
  | .list xs, .int i => atI xs i
  | .tuple xs, .int i => atI xs i
  | .str z, .int i => if z.length ≤ 1000000 then (atI z.cps.toList i).map fun n => .str ⟨#[n]⟩ else none
  | _, _ => none
theorem QA.atI {K : PySem.W.Frag} {ns : Sc} {G : Hp} {us : List V} {ds : List D} {i : Int} {d : D} (q : QA K ns G us ds) (e : L2.atI ds i = some d) : ∃ v, L2.atI us i = some v ∧ Q K ns G v d := by
  unfold L2.atI at e ⊢
  rw [q.length]
  cases h : ixN ds.length i with
  | none => rw [h] at e; cases e
  | some j =>
    rw [h] at e
    exact q.get e
theorem opd_ix : OpD X c.ns (rIx X.K) ixD := fun G H v w x y d Qk e s b1 b2 k => by
  unfold ixD at e
  split at e
  · obtain ⟨a, us, rfl, h1, q1⟩ := b1.list s
    obtain rfl := b2.int
    obtain ⟨u, hu, qu⟩ := q1.atI e
    exact .inl ⟨a, us, _, u, rfl, rfl, SqL.of h1, hu, k G H u (Gr.refl s) qu⟩
  · obtain ⟨a, us, rfl, h1, q1, g1⟩ := b1.tuple s
    obtain rfl := b2.int
    obtain ⟨u, hu, qu⟩ := q1.atI e
    exact .inr (.inl ⟨a, us, _, u, rfl, rfl, h1, hu, k G H u (Gr.refl s) qu⟩)
  · split at e
    · rename_i hl
      obtain rfl := b1.str
      obtain rfl := b2.int
      rename_i z i
      cases h : L2.atI z.cps.toList i with
      | none => rw [h] at e; cases e
      | some n =>
        rw [h] at e
        cases e
        exact .inr (.inr ⟨_, _, n, rfl, rfl, sz hl, h, k G H _ (Gr.refl s) (.str _)⟩)
    · cases e
  · cases e
end
end M

namespace M
open PySem PySem.Spec PyProof.Rows L2
theorem BA.nil_inv {K : PySem.W.Frag} {ns : Sc} {G H : Hp} {vs : List V} (h : BA K ns G H vs []) : vs = [] := by cases h; rfl
theorem BA.cons_inv {K : PySem.W.Frag} {ns : Sc} {G H : Hp} {vs : List V} {d : D} {ds : List D} (h : BA K ns G H vs (d :: ds)) : ∃ v ws, vs = v :: ws ∧ B K ns G H v d ∧ BA K ns G H ws ds := by
  cases h with
  | cons h1 h2 => exact ⟨_, _, rfl, h1, h2⟩

section
variable {X : Cx} {c : Cm} {W : WM}
/-! ### len -/
def lenD : List D → Option D
  | [.list xs] => some (.int xs.length)
  | [.tuple xs] => some (.int xs.length)
  | [.str z] => if z.length ≤ 1000000 then some (.int z.length) else none
  | _ => none
theorem cad_len : CaD X c.ns (fun xs H Q => ∃ x n, xs = [x] ∧ LenV X.K x H n ∧ Q (.int n) H) lenD := fun G H vs ds d Qk e s b k => by
  unfold lenD at e
  split at e
  · cases e
    obtain ⟨v, ws, rfl, b1, b2⟩ := b.cons_inv
    obtain rfl := b2.nil_inv
    obtain ⟨a, us, rfl, h1, q1⟩ := b1.list s
    exact ⟨_, us.length, rfl, .inl ⟨us, SqL.of h1, rfl⟩, by rw [q1.length]; exact k G H _ (Gr.refl s) (.int _)⟩
  · cases e
    obtain ⟨v, ws, rfl, b1, b2⟩ := b.cons_inv
    obtain rfl := b2.nil_inv
    obtain ⟨a, us, rfl, h1, q1, _⟩ := b1.tuple s
    exact ⟨_, us.length, rfl, .inr ⟨us, h1, rfl⟩, by rw [q1.length]; exact k G H _ (Gr.refl s) (.int _)⟩
  · split at e
    · rename_i hl
      cases e
      obtain ⟨v, ws, rfl, b1, b2⟩ := b.cons_inv
      obtain rfl := b2.nil_inv
      obtain rfl := b1.str
      exact ⟨_, _, rfl, ⟨sz hl, rfl⟩, k G H _ (Gr.refl s) (.int _)⟩
    · cases e
  · cases e
/-! ### abs, min, max, int, sum, all, any -/
def absD : List D → Option D
  | [.int i] => some (.int (if i < 0 then -i else i))
  | _ => none
theorem cad_abs : CaD X c.ns (fun xs H Q => ∃ i, xs = [.int i] ∧ Q (.int (if i < 0 then -i else i)) H) absD := fun G H vs ds d Qk e s b k => by
  unfold absD at e
  split at e
  · cases e
    obtain ⟨v, ws, rfl, b1, b2⟩ := b.cons_inv
    obtain rfl := b2.nil_inv
    obtain rfl := b1.int
    exact ⟨_, rfl, k G H _ (Gr.refl s) (.int _)⟩
  · cases e
/-- the intsOf of a list -/
def intsOf : List D → Option (List Int)
  | [] => some []
  | .int i :: r => (intsOf r).map (i :: ·)
  | _ :: _ => none
theorem ints_eq : ∀ {ds : List D} {is : List Int}, intsOf ds = some is → ds = is.map .int
  | [], _, h => by cases h; rfl
  | .int i :: r, is, h => by
    unfold intsOf at h
    cases e : intsOf r with
    | none => rw [e] at h; cases h
    | some js =>
      rw [e] at h
      cases h
      rw [ints_eq e]
      rfl
  | .none :: _, _, h => by cases h
  | .bool _ :: _, _, h => by cases h
  | .str _ :: _, _, h => by cases h
  | .list _ :: _, _, h => by cases h
  | .tuple _ :: _, _, h => by cases h
  | .dict _ :: _, _, h => by cases h
theorem ints_map (is : List Int) : intsOf (is.map .int) = some is := by
  induction is with
  | nil => rfl
  | cons i is ih => show (intsOf (is.map .int)).map (i :: ·) = _; rw [ih]; rfl
theorem QA.ints_inv {K : PySem.W.Frag} {ns : Sc} {G : Hp} : ∀ {is : List Int} {us : List V}, QA K ns G us (is.map .int) → us = is.map V.int
  | [], _, h => by cases h; rfl
  | i :: is, _, h => by
    cases h with
    | cons h1 h2 =>
      cases h1
      rw [QA.ints_inv h2]
      rfl
def boolsOf : List D → Option (List Bool)
  | [] => some []
  | .bool i :: r => (boolsOf r).map (i :: ·)
  | _ :: _ => none
theorem bools_eq : ∀ {ds : List D} {is : List Bool}, boolsOf ds = some is → ds = is.map .bool
  | [], _, h => by cases h; rfl
  | .bool i :: r, is, h => by
    unfold boolsOf at h
    cases e : boolsOf r with
    | none => rw [e] at h; cases h
    | some js =>
      rw [e] at h
      cases h
      rw [bools_eq e]
      rfl
  | .none :: _, _, h => by cases h
  | .int _ :: _, _, h => by cases h
  | .str _ :: _, _, h => by cases h
  | .list _ :: _, _, h => by cases h
  | .tuple _ :: _, _, h => by cases h
  | .dict _ :: _, _, h => by cases h
theorem bools_map (is : List Bool) : boolsOf (is.map .bool) = some is := by
  induction is with
  | nil => rfl
  | cons i is ih => show (boolsOf (is.map .bool)).map (i :: ·) = _; rw [ih]; rfl
theorem QA.bools_inv {K : PySem.W.Frag} {ns : Sc} {G : Hp} : ∀ {is : List Bool} {us : List V}, QA K ns G us (is.map .bool) → us = is.map V.bl
  | [], _, h => by cases h; rfl
  | i :: is, _, h => by
    cases h with
    | cons h1 h2 =>
      cases h1
      rw [QA.bools_inv h2]
      rfl
def allD : List D → Option D
  | [.list xs] => (boolsOf xs).map fun bs => .bool (bs.all id)
  | _ => none
def anyD : List D → Option D
  | [.list xs] => (boolsOf xs).map fun bs => .bool (bs.any id)
  | _ => none
theorem cad_all : CaD X c.ns (rAll X.K) allD := fun G H vs ds d Qk e s b k => by
  unfold allD at e
  split at e
  · rename_i xs
    cases eb : boolsOf xs with
    | none => rw [eb] at e; cases e
    | some bs =>
      rw [eb] at e
      cases e
      obtain rfl := bools_eq eb
      obtain ⟨v, ws, rfl, b1, b2⟩ := b.cons_inv
      obtain rfl := b2.nil_inv
      obtain ⟨a, us, rfl, h1, q1⟩ := b1.list s
      obtain rfl := q1.bools_inv
      exact ⟨a, bs, rfl, SqL.of h1, k G H _ (Gr.refl s) (.bl _)⟩
  · cases e
theorem cad_any : CaD X c.ns (rAny X.K) anyD := fun G H vs ds d Qk e s b k => by
  unfold anyD at e
  split at e
  · rename_i xs
    cases eb : boolsOf xs with
    | none => rw [eb] at e; cases e
    | some bs =>
      rw [eb] at e
      cases e
      obtain rfl := bools_eq eb
      obtain ⟨v, ws, rfl, b1, b2⟩ := b.cons_inv
      obtain rfl := b2.nil_inv
      obtain ⟨a, us, rfl, h1, q1⟩ := b1.list s
      obtain rfl := q1.bools_inv
      exact ⟨a, bs, rfl, SqL.of h1, k G H _ (Gr.refl s) (.bl _)⟩
  · cases e
def sumD : List D → Option D
  | [.list xs] => (intsOf xs).map fun bs => .int bs.sum
  | _ => none
theorem cad_sum : CaD X c.ns (rSum X.K) sumD := fun G H vs ds d Qk e s b k => by
  unfold sumD at e
  split at e
  · rename_i xs
    cases eb : intsOf xs with
    | none => rw [eb] at e; cases e
    | some bs =>
      rw [eb] at e
      cases e
      obtain rfl := ints_eq eb
      obtain ⟨v, ws, rfl, b1, b2⟩ := b.cons_inv
      obtain rfl := b2.nil_inv
      obtain ⟨a, us, rfl, h1, q1⟩ := b1.list s
      obtain rfl := q1.ints_inv
      exact ⟨a, bs, rfl, SqL.of h1, k G H _ (Gr.refl s) (.int _)⟩
  · cases e
def maxL : List Int → Int
  | [] => 0
  | [x] => x
  | x :: r => max x (maxL r)
def minL : List Int → Int
  | [] => 0
  | [x] => x
  | x :: r => min x (minL r)
theorem maxL_cons (x y : Int) (r : List Int) : maxL (x :: y :: r) = max x (maxL (y :: r)) := rfl
theorem minL_cons (x y : Int) (r : List Int) : minL (x :: y :: r) = min x (minL (y :: r)) := rfl
theorem maxL_mem : ∀ {l : List Int}, l ≠ [] → maxL l ∈ l ∧ ∀ y ∈ l, y ≤ maxL l
  | [], h => absurd rfl h
  | [x], _ => ⟨by simp [maxL], fun y hy => by simp at hy; subst hy; simp [maxL]⟩
  | x :: y :: r, _ => by
    obtain ⟨h1, h2⟩ := maxL_mem (l := y :: r) (by simp)
    rw [maxL_cons]
    refine ⟨?_, fun z hz => ?_⟩
    · by_cases hx : x ≤ maxL (y :: r)
      · rw [Int.max_eq_right hx]; exact List.mem_cons_of_mem _ h1
      · rw [Int.max_eq_left (by omega)]; simp
    · rcases List.mem_cons.mp hz with rfl | hz
      · exact Int.le_max_left _ _
      · exact Int.le_trans (h2 z hz) (Int.le_max_right _ _)
theorem minL_mem : ∀ {l : List Int}, l ≠ [] → minL l ∈ l ∧ ∀ y ∈ l, minL l ≤ y
  | [], h => absurd rfl h
  | [x], _ => ⟨by simp [minL], fun y hy => by simp at hy; subst hy; simp [minL]⟩
  | x :: y :: r, _ => by
    obtain ⟨h1, h2⟩ := minL_mem (l := y :: r) (by simp)
    rw [minL_cons]
    refine ⟨?_, fun z hz => ?_⟩
    · by_cases hx : x ≤ minL (y :: r)
      · rw [Int.min_eq_left hx]; simp
      · rw [Int.min_eq_right (by omega)]; exact List.mem_cons_of_mem _ h1
    · rcases List.mem_cons.mp hz with rfl | hz
      · exact Int.min_le_left _ _
      · exact Int.le_trans (Int.min_le_right _ _) (h2 z hz)
def maxD : List D → Option D
  | [.int i, .int j] => some (.int (if j > i then j else i))
  | [.list xs] => match intsOf xs with
    | some (i :: is) => some (.int (maxL (i :: is)))
    | _ => none
  | _ => none
def minD : List D → Option D
  | [.int i, .int j] => some (.int (if j < i then j else i))
  | [.list xs] => match intsOf xs with
    | some (i :: is) => some (.int (minL (i :: is)))
    | _ => none
  | _ => none
theorem car_max (hc : X.calm = true) : CallR X (.builtin "max") (fun xs H Q => (∃ i j, xs = [.int i, .int j] ∧ Q (.int (if j > i then j else i)) H) ∨ rMax X.K xs H Q) := (call_max2 hc).or (cr_max hc)
theorem car_min (hc : X.calm = true) : CallR X (.builtin "min") (fun xs H Q => (∃ i j, xs = [.int i, .int j] ∧ Q (.int (if j < i then j else i)) H) ∨ rMin X.K xs H Q) := (call_min2 hc).or (cr_min hc)
theorem cad_max : CaD X c.ns (fun xs H Q => (∃ i j, xs = [.int i, .int j] ∧ Q (.int (if j > i then j else i)) H) ∨ rMax X.K xs H Q) maxD := fun G H vs ds d Qk e s b k => by
  unfold maxD at e
  split at e
  · cases e
    obtain ⟨v, ws, rfl, b1, b2⟩ := b.cons_inv
    obtain ⟨v2, ws2, rfl, b3, b4⟩ := b2.cons_inv
    obtain rfl := b4.nil_inv
    obtain rfl := b1.int
    obtain rfl := b3.int
    exact .inl ⟨_, _, rfl, k G H _ (Gr.refl s) (.int _)⟩
  · split at e
    · rename_i xs i is eb
      cases e
      obtain rfl := ints_eq eb
      obtain ⟨v, ws, rfl, b1, b2⟩ := b.cons_inv
      obtain rfl := b2.nil_inv
      obtain ⟨a, us, rfl, h1, q1⟩ := b1.list s
      obtain rfl := q1.ints_inv
      refine .inr ⟨a, i :: is, rfl, SqL.of h1, by simp, fun m hm hle => ?_⟩
      obtain ⟨z1, z2⟩ := maxL_mem (l := i :: is) (by simp)
      have : m = maxL (i :: is) := by
        have := hle _ z1
        have := z2 _ hm
        omega
      rw [this]
      exact k G H _ (Gr.refl s) (.int _)
    · cases e
  · cases e
theorem cad_min : CaD X c.ns (fun xs H Q => (∃ i j, xs = [.int i, .int j] ∧ Q (.int (if j < i then j else i)) H) ∨ rMin X.K xs H Q) minD := fun G H vs ds d Qk e s b k => by
  unfold minD at e
  split at e
  · cases e
    obtain ⟨v, ws, rfl, b1, b2⟩ := b.cons_inv
    obtain ⟨v2, ws2, rfl, b3, b4⟩ := b2.cons_inv
    obtain rfl := b4.nil_inv
    obtain rfl := b1.int
    obtain rfl := b3.int
    exact .inl ⟨_, _, rfl, k G H _ (Gr.refl s) (.int _)⟩
  · split at e
    · rename_i xs i is eb
      cases e
      obtain rfl := ints_eq eb
      obtain ⟨v, ws, rfl, b1, b2⟩ := b.cons_inv
      obtain rfl := b2.nil_inv
      obtain ⟨a, us, rfl, h1, q1⟩ := b1.list s
      obtain rfl := q1.ints_inv
      refine .inr ⟨a, i :: is, rfl, SqL.of h1, by simp, fun m hm hle => ?_⟩
      obtain ⟨z1, z2⟩ := minL_mem (l := i :: is) (by simp)
      have : m = minL (i :: is) := by
        have := hle _ z1
        have := z2 _ hm
        omega
      rw [this]
      exact k G H _ (Gr.refl s) (.int _)
    · cases e
  · cases e
def intD : List D → Option D
  | [.int i] => some (.int i)
  | [.bool b] => some (.int (if b then 1 else 0))
  | _ => none
theorem cad_int : CaD X c.ns (fun xs H Q => (∃ i, xs = [.int i] ∧ Q (.int i) H) ∨ ∃ k, xs = [.bl k] ∧ Q (.int (if k then 1 else 0)) H) intD := fun G H vs ds d Qk e s b k => by
  unfold intD at e
  split at e
  · cases e
    obtain ⟨v, ws, rfl, b1, b2⟩ := b.cons_inv
    obtain rfl := b2.nil_inv
    obtain rfl := b1.int
    exact .inl ⟨_, rfl, k G H _ (Gr.refl s) (.int _)⟩
  · cases e
    obtain ⟨v, ws, rfl, b1, b2⟩ := b.cons_inv
    obtain rfl := b2.nil_inv
    obtain rfl := b1.bool
    exact .inr ⟨_, rfl, k G H _ (Gr.refl s) (.int _)⟩
  · cases e
/-! ### list(x), tuple(x) -/
def listD : List D → Option D
  | [.list xs] => some (.list xs)
  | [.tuple xs] => some (.list xs)
  | _ => none
def tupleD : List D → Option D
  | [.list xs] => some (.tuple xs)
  | [.tuple xs] => some (.tuple xs)
  | _ => none
theorem cad_list : CaD X c.ns (fun xs H Q => ∃ p ys, xs = [.ref p] ∧ (SqL X.K H p ys ∨ SqT X.K H p ys) ∧ ∀ l, H l = none → Q (.ref l) (upd H l (.lst ys))) listD := fun G H vs ds d Qk e s b k => by
  unfold listD at e
  split at e
  · cases e
    obtain ⟨v, ws, rfl, b1, b2⟩ := b.cons_inv
    obtain rfl := b2.nil_inv
    obtain ⟨a, us, rfl, h1, q1⟩ := b1.list s
    exact ⟨a, us, rfl, .inl (SqL.of h1), newL s q1 rfl k⟩
  · cases e
    obtain ⟨v, ws, rfl, b1, b2⟩ := b.cons_inv
    obtain rfl := b2.nil_inv
    obtain ⟨a, us, rfl, h1, q1, _⟩ := b1.tuple s
    exact ⟨a, us, rfl, .inr h1, newL s q1 rfl k⟩
  · cases e
theorem cad_tuple : CaD X c.ns (fun xs H Q => ∃ p ys, xs = [.ref p] ∧ ((SqL X.K H p ys ∧ ∀ l, H l = none → Q (.ref l) (upd H l (.tup ys))) ∨ (SqT X.K H p ys ∧ Q (.ref p) H))) tupleD := fun G H vs ds d Qk e s b k => by
  unfold tupleD at e
  split at e
  · cases e
    obtain ⟨v, ws, rfl, b1, b2⟩ := b.cons_inv
    obtain rfl := b2.nil_inv
    obtain ⟨a, us, rfl, h1, q1⟩ := b1.list s
    exact ⟨a, us, rfl, .inl ⟨SqL.of h1, newT s q1 rfl k⟩⟩
  · cases e
    obtain ⟨v, ws, rfl, b1, b2⟩ := b.cons_inv
    obtain rfl := b2.nil_inv
    obtain ⟨a, us, rfl, h1, q1, g1⟩ := b1.tuple s
    exact ⟨a, us, rfl, .inr ⟨h1, k G H _ (Gr.refl s) (.tup g1 q1)⟩⟩
  · cases e
/-- list(range(..)) -/
def rgv (a b : Int) : List D := (List.range (b - a).toNat).map fun (i : Nat) => .int (a + (i : Nat))
theorem QA.rgv {K : PySem.W.Frag} {ns : Sc} {G : Hp} (a b : Int) : QA K ns G (rgV a b) (M.rgv a b) := by
  unfold rgV M.rgv
  generalize (List.range (b - a).toNat) = l
  induction l with
  | nil => exact .nil
  | cons i l ih => exact .cons (.int _) ih
def lrg1 (f : Rho → R D) : Rho → R D := fun ρ => (f ρ).bind fun d => match d with
  | .int j => if -1000000 ≤ j ∧ j ≤ 1000000 then .ok (.list (rgv 0 j)) else .bad
  | _ => .bad
theorem me_listRg1 {a : Expr} {f : Rho → R D} {p p2 pos pos2 : Pos} (hc : X.calm = true) (hg : Gl X "list") (hm : X.mg "list" = none) (hg2 : Gl X "range") (hm2 : X.mg "range" = none) (ha : MB X c W a f) (na : starEach [a] X.env = (false, eval a X.env) :: starEach [] X.env := by rfl)
    (nb : starEach [.Call (.Name "range" p2) [a] [] pos2] X.env = (false, eval (.Call (.Name "range" p2) [a] [] pos2) X.env) :: starEach [] X.env := by rfl) : ME X c W (.Call (.Name "list" p) [.Call (.Name "range" p2) [a] [] pos2] [] pos) (lrg1 f) :=
  PE.imp (pe_listRg hc hg hm (prg_1 hg2 hm2 ha na) nb) fun σ H Qk ⟨G, ρ, ok, p⟩ => step ok p fun x G1 H1 v _ g1 r1 ok1 p1 => by
    cases x with
    | int j =>
      obtain rfl := r1.int
      dsimp only at p1
      split at p1
      · rename_i hj
        exact ⟨j, rfl, ⟨by omega, by omega, by omega, by omega, by omega⟩, newL ok1.s (QA.rgv 0 j) rfl fun G' H' u g q => p1 G' H' u g q⟩
      · exact p1.elim
    | _ => exact p1.elim
/-! ### slices -/
def cutD {α : Type} (xs : List α) (lo hi : Option Int) : List α := (xs.drop (HT.sIx xs.length 0 lo)).take (HT.sIx xs.length xs.length hi - HT.sIx xs.length 0 lo)
theorem QA.cut {K : PySem.W.Frag} {ns : Sc} {G : Hp} {us : List V} {ds : List D} (q : QA K ns G us ds) (lo hi : Option Int) : QA K ns G (cutV us lo hi) (cutD ds lo hi) := by
  unfold cutV cutD
  rw [q.length]
  exact (q.drop _).take _
def slD (d : D) (lo hi : Option Int) : Option D := match d with
  | .list xs => some (.list (cutD xs lo hi))
  | .tuple xs => some (.tuple (cutD xs lo hi))
  | .str z => if z.length ≤ 1000000 then some (.str (cutS z lo hi)) else none
  | _ => none
def SlD (X : Cx) (ns : Sc) (r : V → Option Int → Option Int → Hp → VK → Prop) : Prop := ∀ (G H : Hp) (v : V) (x d : D) (lo hi : Option Int) (Qk : VK), slD x lo hi = some d → Sub G H → B X.K ns G H v x → (∀ G' H' u, Gr G H G' H' → Q X.K ns G' u d → Qk u H') → r v lo hi H Qk
theorem slr : SlR X (fun x lo hi H Q => rSlL X.K x lo hi H Q ∨ rSlA X.K x lo hi H Q ∨ rSlS x lo hi H Q) := sl_list.or (sl_tupA.or sl_str)
theorem sld : SlD X c.ns (fun x lo hi H Q => rSlL X.K x lo hi H Q ∨ rSlA X.K x lo hi H Q ∨ rSlS x lo hi H Q) := fun G H v x d lo hi Qk e s b k => by
  unfold slD at e
  split at e
  · cases e
    obtain ⟨a, us, rfl, h1, q1⟩ := b.list s
    exact .inl ⟨a, us, rfl, SqL.of h1, newL s (q1.cut lo hi) rfl k⟩
  · rename_i xs
    cases e
    obtain ⟨a, us, rfl, h1, q1, g1⟩ := b.tuple s
    refine .inr (.inl ⟨a, us, rfl, h1, fun ⟨z1, z2⟩ => ?_, fun _ => newT s (q1.cut lo hi) rfl k⟩)
    have e : cutD xs lo hi = xs := by
      unfold cutD
      rw [← q1.length, z1, z2]
      simp [q1.length]
    rw [e] at k
    exact k G H _ (Gr.refl s) (.tup g1 q1)
  · split at e
    · rename_i hl
      cases e
      obtain rfl := b.str
      exact .inr (.inr ⟨_, rfl, sz hl, k G H _ (Gr.refl s) (.str _)⟩)
    · cases e
  · cases e
abbrev MO (X : Cx) (c : Cm) (W : WM) (e : Option Expr) (f : Rho → R (Option Int)) : Prop := PO X e (tR X.K c W (fun _ _ (a b : Option Int) => a = b) f)
theorem PO.imp {e : Option Expr} {t t' : TO} (h : PO X e t) (i : ∀ σ H Q, t' σ H Q → t σ H Q) : PO X e t' := ⟨fun pins s σ H Q I hw => h.run pins s σ H Q I (i σ H Q hw)⟩
theorem mo_none : MO X c W none (cst none) := PO.imp po_none fun σ H Qk ⟨G, ρ, ok, p⟩ => p G H none (Gr.refl ok.s) rfl
def asI : D → Option (Option Int)
  | .int i => some (some i)
  | _ => none
theorem mo_some {e : Expr} {f : Rho → R D} (h : MB X c W e f) : MO X c W (some e) (e1 asI f) := PO.imp (po_some h) fun σ H Qk ⟨G, ρ, ok, p⟩ => step ok p fun x G1 H1 v _ g1 r1 ok1 p1 => by
  cases x with
  | int i =>
    obtain rfl := r1.int
    exact ⟨i, rfl, p1 G1 H1 _ (Gr.refl ok1.s) rfl⟩
  | _ => exact p1.elim
def slE (f : Rho → R D) (l h : Rho → R (Option Int)) : Rho → R D := fun ρ => (f ρ).bind fun x => (l ρ).bind fun lo => (h ρ).bind fun hi => R.of (slD x lo hi)
theorem me_slice {e : Expr} {lo hi : Option Expr} {f : Rho → R D} {l h : Rho → R (Option Int)} {p2 pos : Pos} (he : MB X c W e f) (hl : MO X c W lo l) (hh : MO X c W hi h) : ME X c W (.Subscript e (.Slice lo hi none p2) pos) (slE f l h) :=
  PE.imp (pe_slice slr he hl hh) fun σ H Qk ⟨G, ρ, ok, p⟩ => step ok p fun x G1 H1 v _ g1 r1 ok1 p1 => step ok1 p1 fun a G2 H2 a' _ g2 r2 ok2 p2 => step ok2 p2 fun b G3 H3 b' _ g3 r3 ok3 p3 => by
    subst r2 r3
    cases es : slD x a' b' with
    | none => rw [es] at p3; exact p3.elim
    | some d =>
      rw [es] at p3
      exact sld G3 H3 v x d a' b' Qk es ok3.s ((r1.gr g2).gr g3) p3
/-- xs[::-1], a list -/
def revD : D → Option D
  | .list xs => some (.list xs.reverse)
  | _ => none
theorem me_revL {e : Expr} {f : Rho → R D} {k : Nat} {p1 p2 p3 pos : Pos} (he : MB X c W e f) : ME X c W (.Subscript e (.Slice none none (some (.UnaryOp .USub (.Constant (.int 1) k p1) p2)) p3) pos) (e1 revD f) :=
  PE.imp (pe_revL he) fun σ H Qk ⟨G, ρ, ok, p⟩ => step ok p fun x G1 H1 v _ g1 r1 ok1 p1 => by
    cases x with
    | list xs =>
      obtain ⟨a, us, rfl, h1, q1⟩ := r1.list ok1.s
      exact ⟨a, us, rfl, SqL.of h1, newL ok1.s q1.rev rfl p1⟩
    | _ => exact p1.elim
/-! ### in -/
def flatD : D → Bool
  | .list _ => false
  | .tuple _ => false
  | .dict _ => false
  | _ => true
end
end M

namespace M
open PySem PySem.Spec PyProof.Rows L2
/-! ### isinstance -/
inductive Ty where
  | int | bool | str | list | tuple | dict
def Ty.name : Ty → String
  | .int => "int"
  | .bool => "bool"
  | .str => "str"
  | .list => "list"
  | .tuple => "tuple"
  | .dict => "dict"
def tyN : D → String
  | .none => "NoneType"
  | .bool _ => "bool"
  | .int _ => "int"
  | .str _ => "str"
  | .list _ => "list"
  | .tuple _ => "tuple"
  | .dict _ => "dict"
def isi : Ty → D → Bool
  | .int, .int _ => true
  | .int, .bool _ => true
  | .bool, .bool _ => true
  | .str, .str _ => true
  | .list, .list _ => true
  | .tuple, .tuple _ => true
  | _, _ => false
def isDict : D → Bool
  | .dict _ => true
  | _ => false
theorem kit_tab (T : Ty) (d : D) (h : isDict d = false) : kitB (tyN d) T.name = some (isi T d) := by
  cases T <;> cases d <;> first | (simp [isDict] at h; done) | (simp only [tyN, Ty.name, isi]; decide +kernel)
theorem tyX {K : PySem.W.Frag} {ns : Sc} {G H : Hp} {v : V} {d : D} (s : Sub G H) (b : B K ns G H v d) (h : isDict d = false) : TyX K H v (.type (tyN d)) := by
  rcases b with q | ⟨a, us, ds, rfl, rfl, h1, q⟩
  · cases q with
    | non => exact .base .non
    | bl b => exact .base (.bl b)
    | int i => exact .base (.int i)
    | str x => exact .base (.str x)
    | lst h1 h2 => exact .base (.lst (s _ _ h1).1)
    | tup h1 h2 =>
      rcases SqT.same s.same h1 with (h3 | ⟨o, h3⟩) | ⟨o, its, n, h3, h4, _⟩
      · exact .base (.tup h3)
      · exact .fTuple h3
      · exact .kTuple h3 h4
    | scr h1 => exact absurd h (by simp [isDict])
    | ntp is h1 h2 => exact absurd h (by simp [isDict])
    | obj j h1 h2 => exact absurd h (by simp [isDict])
    | dk ks h1 h2 => exact absurd h (by simp [isDict])
    | dt ks h1 h2 => exact absurd h (by simp [isDict])
  · exact .base (.lst h1)
def isiE (T : Ty) : D → Option D := fun d => if isDict d then none else some (.bool (isi T d))
def isiTE (T U : Ty) : D → Option D := fun d => if isDict d then none else some (.bool (isi T d || isi U d))
section
variable {X : Cx} {c : Cm} {W : WM}
theorem me_isi (T : Ty) {e e2 : Expr} {f : Rho → R D} {p pos : Pos} (hg : Gl X "isinstance") (hm : X.mg "isinstance" = none) (hv : bootBuiltins "isinstance" = some (.builtin "isinstance")) (he : MB X c W e f) (h2 : PE X e2 (tC (.ty T.name)))
    (s1 : starEach [e, e2] X.env = (false, eval e X.env) :: starEach [e2] X.env := by rfl) (s2 : starEach [e2] X.env = (false, eval e2 X.env) :: starEach [] X.env := by rfl) (hpl : (backTo pos (starEach [e2] X.env)).any (·.1) = false := by rfl) :
    ME X c W (.Call (.Name "isinstance" p) [e, e2] [] pos) (e1 (isiE T) f) :=
  PE.imp (pe_callB call_isi hg hm hv (pa_cons he (pa_cons h2 pa_nil s2) s1) (by decide) (by decide) s1 hpl) fun σ H Qk ⟨G, ρ, ok, p⟩ => step ok p fun x G1 H1 v _ g1 r1 ok1 p1 => by
    unfold isiE at p1
    cases hd : isDict x with
    | true => rw [hd] at p1; exact p1.elim
    | false =>
      rw [hd] at p1
      exact ⟨v, .ty T.name, .type (tyN x), .type T.name, isi T x, rfl, .ty _, tyX ok1.s r1 hd, kit_ty (kit_tab T x hd), p1 G1 H1 _ (Gr.refl ok1.s) (.bl _)⟩
theorem me_isiT (T U : Ty) {e a b : Expr} {f : Rho → R D} {k : Nat} {p p2 pos : Pos} (hg : Gl X "isinstance") (hm : X.mg "isinstance" = none) (hv : bootBuiltins "isinstance" = some (.builtin "isinstance")) (he : MB X c W e f) (h1 : PE X a (tC (.ty T.name))) (h2 : PE X b (tC (.ty U.name)))
    (s1 : starEach [e, .Tuple [a, b] k p2] X.env = (false, eval e X.env) :: starEach [.Tuple [a, b] k p2] X.env := by rfl) (s2 : starEach [.Tuple [a, b] k p2] X.env = (false, eval (.Tuple [a, b] k p2) X.env) :: starEach [] X.env := by rfl) (hpl : (backTo pos (starEach [.Tuple [a, b] k p2] X.env)).any (·.1) = false := by rfl)
    (s3 : starEach [a, b] X.env = (false, eval a X.env) :: starEach [b] X.env := by rfl) (s4 : starEach [b] X.env = (false, eval b X.env) :: starEach [] X.env := by rfl) :
    ME X c W (.Call (.Name "isinstance" p) [e, .Tuple [a, b] k p2] [] pos) (e1 (isiTE T U) f) :=
  PE.imp (pe_callB call_isiT hg hm hv (pa_cons he (pa_cons (pe_tup (pa_cons h1 (pa_cons h2 pa_nil s4) s3)) pa_nil s2) s1) (by decide) (by decide) s1 hpl) fun σ H Qk ⟨G, ρ, ok, p⟩ => step ok p fun x G1 H1 v _ g1 r1 ok1 p1 => by
    unfold isiTE at p1
    cases hd : isDict x with
    | true => rw [hd] at p1; exact p1.elim
    | false =>
      rw [hd] at p1
      refine ⟨by simp; decide, fun q hq => ?_⟩
      have g2 : Gr G1 H1 G1 (upd H1 q (.tup [.ty T.name, .ty U.name])) := Gr.own ok1.s hq
      refine ⟨v, q, [.ty T.name, .ty U.name], .type (tyN x), [.type T.name, .type U.name], isi T x || isi U x, rfl, upd_same, .cons (.ty _) (.cons (.ty _) .nil), tyX g2.s (r1.gr g2) hd, ?_, p1 G1 _ _ g2 (.bl _)⟩
      refine kitAny_cons (kit_ty (kit_tab T x hd)) (fun h => kitAny_cons (kit_ty (kit_tab U x hd)) (fun h' => ?_) fun h' => ?_) fun h => ?_
      · rw [h, h']; rfl
      · rw [h, h']; rfl
      · rw [h]; rfl
/-! ### in, not in -/
def inD : D → D → Option Bool
  | x, .list ds => if (SeqAt.shaped x && SeqAt.shaped (.list ds)) = true then some (ds.any fun z => PyData.eqv z x) else none
  | x, .tuple ds => if (flatD x && ds.all flatD) = true then some (ds.any fun z => PyData.eqv z x) else none
  | _, _ => none
def ninD (x y : D) : Option Bool := (inD x y).map (!·)
theorem flat_of {K : PySem.W.Frag} {ns : Sc} {G H : Hp} {v : V} {d : D} (b : B K ns G H v d) (h : flatD d = true) : flatV v = true := by
  rcases b with q | ⟨a, us, ds, rfl, rfl, h1, q⟩
  · cases q <;> first | rfl | cases h
  · cases h
theorem eq_flat {K : PySem.W.Frag} {ns : Sc} {G : Hp} {v w : V} {d e : D} (q : Q K ns G v d) (r : Q K ns G w e) (h : flatD d = true) (h' : flatD e = true) : eqV v w = PyData.eqv d e := by
  cases q <;> cases r <;> first | rfl | cases h | cases h' | simp [eqV, PyData.eqv]
theorem B.q {K : PySem.W.Frag} {ns : Sc} {G H : Hp} {v : V} {d : D} (b : B K ns G H v d) (h : flatD d = true) : Q K ns G v d := by
  rcases b with q | ⟨a, us, ds, rfl, rfl, h1, q⟩
  · exact q
  · cases h
theorem QA.flat {K : PySem.W.Frag} {ns : Sc} {G : Hp} : ∀ {us : List V} {ds : List D}, QA K ns G us ds → ds.all flatD = true → us.all flatV = true
  | _, [], h, _ => by cases h; rfl
  | _, d :: ds, h, a => by
    cases h with
    | cons h1 h2 =>
      have a' : flatD d = true ∧ ds.all flatD = true := by simpa using a
      have z := QA.flat h2 a'.2
      have y : flatV _ = true := flat_of (H := G) (.inl h1) a'.1
      simp only [List.all_cons, y, z, Bool.and_self]
theorem QA.anyEq {K : PySem.W.Frag} {ns : Sc} {G : Hp} {v : V} {x : D} (q : Q K ns G v x) (hx : flatD x = true) : ∀ {us : List V} {ds : List D}, QA K ns G us ds → ds.all flatD = true → inV v us = ds.any fun z => PyData.eqv z x
  | _, [], h, _ => by cases h; rfl
  | _, d :: ds, h, a => by
    cases h with
    | cons h1 h2 =>
      have a' : flatD d = true ∧ ds.all flatD = true := by simpa using a
      have := QA.anyEq q hx h2 a'.2
      unfold inV at this ⊢
      simp only [List.any_cons, this, eq_flat h1 q a'.1 hx]
theorem opr_in (hu : X.A.units + 65 < cLine) : OpR X (compareOp .In) (fun x y H Q => rInD X.K x y H Q ∨ rIn X.K false x y H Q) := (op_inD hu).or op_in_seq
theorem opr_nin (hu : X.A.units + 65 < cLine) : OpR X (compareOp .NotIn) (fun x y H Q => rNotInD X.K x y H Q ∨ rIn X.K true x y H Q) := (op_notInD hu).or op_notIn_seq
theorem cmd_in : CmD X c.ns (fun x y H Q => rInD X.K x y H Q ∨ rIn X.K false x y H Q) inD := fun G H v w x y d Qk e s b1 b2 k => by
  unfold inD at e
  split at e
  · split at e
    · rename_i h
      cases e
      have h' := Bool.and_eq_true_iff.mp h
      exact .inl ⟨_, _, b1.dp s h'.1, b2.dp s h'.2, h'.1, h'.2, k G H (Gr.refl s)⟩
    · cases e
  · split at e
    · rename_i h
      cases e
      have h' := Bool.and_eq_true_iff.mp h
      obtain ⟨a, us, rfl, h1, q1, _⟩ := b2.tuple s
      refine .inr ⟨a, us, rfl, .inr h1, flat_of b1 h'.1, q1.flat h'.2, ?_⟩
      rw [if_neg Bool.false_ne_true, QA.anyEq (b1.q h'.1) h'.1 q1 h'.2]
      exact k G H (Gr.refl s)
    · cases e
  · cases e
theorem cmd_nin : CmD X c.ns (fun x y H Q => rNotInD X.K x y H Q ∨ rIn X.K true x y H Q) ninD := fun G H v w x y d Qk e s b1 b2 k => by
  unfold ninD inD at e
  split at e
  · split at e
    · rename_i h
      cases e
      have h' := Bool.and_eq_true_iff.mp h
      exact .inl ⟨_, _, b1.dp s h'.1, b2.dp s h'.2, h'.1, h'.2, k G H (Gr.refl s)⟩
    · cases e
  · split at e
    · rename_i h
      cases e
      have h' := Bool.and_eq_true_iff.mp h
      obtain ⟨a, us, rfl, h1, q1, _⟩ := b2.tuple s
      refine .inr ⟨a, us, rfl, .inr h1, flat_of b1 h'.1, q1.flat h'.2, ?_⟩
      rw [if_pos rfl, QA.anyEq (b1.q h'.1) h'.1 q1 h'.2]
      exact k G H (Gr.refl s)
    · cases e
  · cases e
theorem units65 {k : Nat} {A : Around} (r : Room k A) : A.units + 65 < cLine := by have := r.un; omega
/-! ### index -/
def rIndexT (K : PySem.W.Frag) : V → List V → Hp → VK → Prop := fun x xs H Q => ∃ (a : Addr) (ys : List V) (y : V) (j : Nat) (z : V), x = V.ref a ∧ xs = [y] ∧ SqT K H a ys ∧ flatV y = true ∧ ys.all flatV = true ∧ ys[j]? = some z ∧ eqV z y = true ∧
  (∀ (m : Nat) (z' : V), m < j → ys[m]? = some z' → eqV z' y = false) ∧ Q (.int (j : Nat)) H
theorem mt_indexT : MtR X "tuple.index" (rIndexT X.K) := by
  intro pins s σ H x xs v us Q I rx rxs h
  obtain ⟨p, ys, y, j, z, rfl, rfl, hq, fy, fys, hz, hzj, hno, q⟩ := h
  cases rx
  obtain ⟨u, rfl, ru⟩ := vals1 rxs
  obtain ⟨its, r, pl, hzz⟩ := I.tuple hq
  obtain ⟨⟨cls, dd, dt, sl⟩, ho, hc, n, hd⟩ := pl
  simp only at hc hd
  subst hc
  subst hd
  have hl : its.toArray.size = ys.length := by rw [List.size_toArray, ← r.length]
  have hj : j < its.toArray.size := by rw [hl]; exact (List.getElem?_eq_some_iff.mp hz).1
  have at' : ∀ (m : Nat) (hm : m < its.toArray.size) (w : V), ys[m]? = some w → RelV w its.toArray[m] := fun m hm w hw => by
    obtain ⟨w', h1, h2⟩ := r.get (i := m) hw
    have e := (List.getElem?_eq_some_iff.mp h1).2
    rw [← e] at h2
    simpa using h2
  have fl : ∀ (m : Nat) (w : V), ys[m]? = some w → flatV w = true := fun m w hw => List.all_eq_true.mp fys w (List.mem_of_getElem? hw)
  refine call_meets PySem.F.slot_tuple_index ⟨_, ho, rfl⟩ PySem.F.entry_tuple_index (PySem.F.args_tuple_index_2 _ _) (TI.tuple_indexAt p its.toArray n dd sl u (eqU y) j hj ?_ ?_)
    ⟨ho, fun w hw => mem_eqAt (x := y) ru fy r fys w (by simpa using hw), ⟨.int (j : Nat), H, I.tok _, ⟨_, rfl⟩, q⟩⟩
  · rw [eqU_of (at' j hj z hz) (fl j z hz)]
    exact hzj
  · intro m hm hmj
    have hmy : m < ys.length := by rw [← hl]; exact hm
    have e := List.getElem?_eq_getElem hmy
    rw [eqU_of (at' m hm _ e) (fl m _ e)]
    exact hno m _ hmj e
/-- the first place -/
def findI (x : D) : List D → Option Nat
  | [] => none
  | d :: ds => if PyData.eqv d x then some 0 else (findI x ds).map (· + 1)
theorem findI_spec {x : D} : ∀ {ds : List D} {j : Nat}, findI x ds = some j → ∃ z, ds[j]? = some z ∧ PyData.eqv z x = true ∧ ∀ (m : Nat) (z' : D), m < j → ds[m]? = some z' → PyData.eqv z' x = false
  | [], _, h => by cases h
  | d :: ds, j, h => by
    unfold findI at h
    split at h
    · rename_i hd
      cases h
      exact ⟨d, rfl, hd, fun m z' hm _ => absurd hm (Nat.not_lt_zero m)⟩
    · rename_i hd
      cases e : findI x ds with
      | none => rw [e] at h; cases h
      | some i =>
        rw [e] at h
        cases h
        obtain ⟨z, h1, h2, h3⟩ := findI_spec e
        refine ⟨z, by simpa using h1, h2, fun m z' hm hz' => ?_⟩
        cases m with
        | zero =>
          simp at hz'
          subst hz'
          simpa using hd
        | succ m => exact h3 m z' (by simpa using hm) (by simpa using hz')
def idxD : D → D → Option D
  | .tuple ds, x => if (flatD x && ds.all flatD) = true then (findI x ds).map fun j => .int (j : Nat) else none
  | .list ds, x => if (flatD x && ds.all flatD) = true then (findI x ds).map fun j => .int (j : Nat) else none
  | _, _ => none
theorem idx_road {K : PySem.W.Frag} {ns : Sc} {G : Hp} {v : V} {us : List V} {x : D} {ds : List D} {j : Nat} (q : Q K ns G v x) (qs : QA K ns G us ds) (h : (flatD x && ds.all flatD) = true) (e : findI x ds = some j) :
    flatV v = true ∧ us.all flatV = true ∧ ∃ z, us[j]? = some z ∧ eqV z v = true ∧ ∀ (m : Nat) (z' : V), m < j → us[m]? = some z' → eqV z' v = false := by
  have h' := Bool.and_eq_true_iff.mp h
  have fl : ∀ (m : Nat) (w : D), ds[m]? = some w → flatD w = true := fun m w hw => List.all_eq_true.mp h'.2 w (List.mem_of_getElem? hw)
  obtain ⟨z, h1, h2, h3⟩ := findI_spec e
  obtain ⟨w, hw, qw⟩ := qs.get h1
  refine ⟨flat_of (H := G) (.inl q) h'.1, qs.flat h'.2, w, hw, ?_, fun m z' hm hz' => ?_⟩
  · rw [eq_flat qw q (fl j z h1) h'.1]; exact h2
  · have hml : m < ds.length := by rw [← qs.length]; exact (List.getElem?_eq_some_iff.mp hz').1
    have e1 := List.getElem?_eq_getElem hml
    obtain ⟨w', hw', qw'⟩ := qs.get e1
    rw [hz'] at hw'
    cases hw'
    rw [eq_flat qw' q (fl m _ e1) h'.1]
    exact h3 m _ hm e1
theorem PE.or {e : Expr} {t t' : TE} (h : PE X e t) (h' : PE X e t') : PE X e (fun σ H Q => t σ H Q ∨ t' σ H Q) := ⟨fun pins s σ H Q I hw => by
  rcases hw with hw | hw
  · exact h.run pins s σ H Q I hw
  · exact h'.run pins s σ H Q I hw⟩
def idxL : D → D → Option D
  | .list ds, x => if (flatD x && ds.all flatD) = true then (findI x ds).map fun j => .int (j : Nat) else none
  | _, _ => none
theorem me_idxL {E : Expr} {f g : Rho → R D} (h2 : PE X E (tBM X.K "list" (rIndex X.K) (tR X.K c W (RelB X.K c.ns) f) (tCons (tR X.K c W (RelB X.K c.ns) g) tNil))) : ME X c W E (fun ρ => (f ρ).bind fun d => match d with
    | .list ds => (g ρ).bind fun x => R.of (idxL (.list ds) x)
    | _ => .bad) :=
  PE.imp h2 fun σ H Qk ⟨G, ρ, ok, p⟩ => step ok p fun d G1 H1 v _ g1 r1 ok1 p1 => by
    cases d with
    | list ds =>
      obtain ⟨a, us, rfl, h1, q1⟩ := r1.list ok1.s
      refine ⟨tyL h1, step ok1 p1 fun y G2 H2 w _ g2 r2 ok2 p2 => ?_⟩
      unfold idxL at p2
      dsimp only at p2
      by_cases hf : (flatD y && ds.all flatD) = true
      · rw [if_pos hf] at p2
        cases ej : findI y ds with
        | none => rw [ej] at p2; exact p2.elim
        | some j =>
          rw [ej] at p2
          obtain ⟨a, us, e3, h3, q3⟩ := (r1.gr g2).list ok2.s
          cases e3
          obtain ⟨f1, f2, z, f3, f4, f5⟩ := idx_road (r2.q (Bool.and_eq_true_iff.mp hf).1) q3 hf ej
          exact ⟨_, us, w, j, z, rfl, rfl, SqL.of h3, f1, f2, f3, f4, f5, p2 G2 H2 _ (Gr.refl ok2.s) (.int _)⟩
      · rw [if_neg hf] at p2; exact p2.elim
    | _ => exact p1.elim
/-! ### the module's own -/
/-- a tuple of the module's text: its ints -/
structure KTup (K : PySem.W.Frag) (mg : Str → Option Value) (x : Str) (is : List Int) : Prop where
  ex : ∃ (a : Addr) (o : Obj) (its : Array Value) (n : Nat), mg x = some (.ref a) ∧ K.lookup a = some o ∧ o.cls = .type "tuple" ∧ o.dict = none ∧ o.data = .seq its n ∧ its.size ≤ sizeLine ∧ Vals (is.map V.int) its.toList
theorem me_globT {x : Str} {is : List Int} {pos : Pos} (k : KTup X.K X.mg x is) (hg : Gl X x) (hd : (x == ("__debug__" : Str)) = false := by decide) : ME X c W (.Name x pos) (cst (.tuple (is.map .int))) := by
  obtain ⟨a, o, its, n, h1, h2, h3, h4, h5, h6, h7⟩ := k.ex
  exact me_cst (v := .ref a) (pe_glob hg h1 rfl hd) fun G => .tup (.inr ⟨o, its, n, h2, h3, h5, h6, h7⟩) QA.ints
theorem me_globI {x : Str} {i : Int} {t : Tok} {pos : Pos} (hg : Gl X x) (hm : X.mg x = some (.int i t)) (hd : (x == ("__debug__" : Str)) = false := by decide) : ME X c W (.Name x pos) (cst (.int i)) := me_cst (v := .int i) (pe_glob hg hm ⟨t, rfl⟩ hd) fun G => .int i
def idxK (is : List Int) : D → Option D := fun x => if flatD x = true then (findI x (is.map .int)).map fun j => .int (j : Nat) else none
theorem flat_ints (is : List Int) : (is.map PyData.int).all flatD = true := by
  induction is with
  | nil => rfl
  | cons i is ih => show (flatD (.int i) && (is.map PyData.int).all flatD) = true; rw [ih]; rfl
theorem me_idxK {x : Str} {is : List Int} {E : Expr} {g : Rho → R D} {pos : Pos} (k : KTup X.K X.mg x is) (hg : Gl X x) (hp : ∀ {to : TE}, PE X (.Name x pos) to → PE X E (tBM X.K "tuple" (rIndexT X.K) to (tCons (tR X.K c W (RelB X.K c.ns) g) tNil))) (hd : (x == ("__debug__" : Str)) = false := by decide) : ME X c W E (e1 (idxK is) g) := by
  obtain ⟨a, o, its, n, h1, h2, h3, h4, h5, h6, h7⟩ := k.ex
  refine PE.imp (hp (pe_glob (v := .ref a) hg h1 rfl hd)) fun σ H Qk ⟨G, ρ, ok, p⟩ => ⟨.inr (.inl ⟨rfl, o, h2, h3, h4⟩), step ok p fun y G1 H1 w _ g1 r1 ok1 p1 => ?_⟩
  unfold idxK at p1
  by_cases hf : flatD y = true
  · rw [if_pos hf] at p1
    cases ej : findI y (is.map .int) with
    | none => rw [ej] at p1; exact p1.elim
    | some j =>
      rw [ej] at p1
      obtain ⟨f1, f2, z, f3, f4, f5⟩ := idx_road (r1.q hf) (QA.ints (is := is)) (by rw [hf, flat_ints]; rfl) ej
      exact ⟨a, _, w, j, z, rfl, rfl, .inr ⟨o, its, n, h2, h3, h5, h6, h7⟩, f1, f2, f3, f4, f5, p1 G1 H1 _ (Gr.refl ok1.s) (.int _)⟩
  · rw [if_neg hf] at p1; exact p1.elim
/-! ### a call that lends lists of one's own; what it tells is flat -/
def unt (H : Hp) : Hp := fun b => match H b with
  | some (.tbl _) => none
  | o => o
theorem unt_sub (H : Hp) : Sub (unt H) H := fun b o h => by
  unfold unt at h
  cases e : H b with
  | none => rw [e] at h; cases h
  | some u => cases u <;> rw [e] at h <;> cases h <;> exact ⟨rfl, fun _ z => nomatch z⟩
theorem unt_same {G H : Hp} (s : Sub G H) : Same G (unt H) := fun b o h => by
  obtain ⟨h1, h2⟩ := s b o h
  unfold unt
  rw [h1]
  cases o <;> first | rfl | exact absurd rfl (h2 _)
theorem BA.lend {K : PySem.W.Frag} {ns : Sc} {G H : Hp} (s : Sub G H) : ∀ {vs : List V} {ds : List D}, BA K ns G H vs ds → QA K ns (unt H) vs ds := fun h => by
  induction h with
  | nil => exact .nil
  | cons b _ ih =>
    refine .cons ?_ ih
    rcases b with q | ⟨a, us, ds, rfl, rfl, h1, q⟩
    · exact Q.mono (unt_same s) _ _ q
    · refine .lst ?_ (QA.mono (unt_same s) _ _ q)
      unfold unt
      rw [h1]
theorem Q.flat {K : PySem.W.Frag} {ns : Sc} {G G' : Hp} {v : V} {d : D} (q : Q K ns G v d) (h : flatD d = true) : Q K ns G' v d := by
  cases q with
  | non => exact .non
  | bl b => exact .bl b
  | int i => exact .int i
  | str x => exact .str x
  | _ => cases h
def flatR : Out → R D
  | .rt x => if flatD x then .ok x else .bad
  | .rz z _ => .rz z
  | _ => .bad
def lcall (f : List D → Out) (g : Rho → R (List D)) : Rho → R D := fun ρ => (g ρ).bind fun ds => flatR (f ds)
theorem me_lcall {k : Nat} {fa : Addr} {fd : FuncData} {ps : List Str} {x : Str} {p pos : Pos} {e : Expr} {es : List Expr} {f : List D → Out} {g : Rho → R (List D)} (F : FnOk X.prog X.w X.K X.mg X.base CX0 k fa fd ps (spM X.K c.ns X.mg f)) (hr : Room k X.A) (hg : Gl X x) (hm : X.mg x = some (.ref fa)) (hk : PySem.W.keepIn X.K (.ref fa) = true) (hb : Binds X.K fd ps [])
    (ha : MBA X c W0 (e :: es) g) (hdb : (x == ("__debug__" : Str)) = false := by decide) (he : starEach (e :: es) X.env = (false, eval e X.env) :: starEach es X.env := by rfl) (hpl : (backTo pos (starEach es X.env)).any (·.1) = false := by rfl) :
    ME X c W0 (.Call (.Name x p) (e :: es) [] pos) (lcall f g) :=
  PE.imp (pe_call F hr hg hm hk hb .nil pass0 ha hdb he hpl) fun σ H Qk ⟨G, ρ, ok, p⟩ => step ok p fun ds G1 H1 vs _ g1 r1 ok1 p1 => by
    show spM X.K c.ns X.mg f (vs ++ []) H1 Qk E0
    rw [List.append_nil]
    refine ⟨unt H1, ds, unt_sub H1, r1.lend ok1.s, ?_⟩
    have back : ∀ {G' H' : Hp}, Gr (unt H1) H1 G' H' → Gr G1 H1 G1 H' := fun g => ⟨Same.refl _, g.h, ok1.s.ex g.h, fun _ _ _ _ z => z⟩
    cases e : f ds with
    | rt x =>
      rw [e] at p1
      unfold flatR at p1
      dsimp only at p1
      by_cases hf : flatD x = true
      · rw [if_pos hf] at p1
        exact fun G' H' v g q => p1 G1 H' v (back g) (q.flat hf)
      · rw [if_neg hf] at p1; exact p1.elim
    | rz z ρ' => rw [e] at p1; exact fun G' H' g C _ => p1 G1 H' (back g)
    | _ => rw [e] at p1; exact p1.elim
/-! ### sorted, of ints -/
def ins (x : Int) : List Int → List Int
  | [] => [x]
  | y :: r => if x ≤ y then x :: y :: r else y :: ins x r
def sortI : List Int → List Int
  | [] => []
  | x :: r => ins x (sortI r)
theorem ins_perm (x : Int) : ∀ l : List Int, (ins x l).Perm (x :: l)
  | [] => .refl _
  | y :: r => by
    unfold ins
    split
    · exact .refl _
    · exact ((ins_perm x r).cons y).trans (.swap x y r)
theorem sortI_perm : ∀ l : List Int, (sortI l).Perm l
  | [] => .refl _
  | x :: r => (ins_perm x (sortI r)).trans ((sortI_perm r).cons x)
theorem ins_sorted (x : Int) : ∀ {l : List Int}, l.Pairwise (· ≤ ·) → (ins x l).Pairwise (· ≤ ·)
  | [], _ => by simp [ins]
  | y :: r, h => by
    unfold ins
    have h' := List.pairwise_cons.mp h
    split
    · rename_i hx
      exact List.pairwise_cons.mpr ⟨fun z hz => by
        rcases List.mem_cons.mp hz with rfl | hz
        · exact hx
        · exact Int.le_trans hx (h'.1 z hz), h⟩
    · rename_i hx
      refine List.pairwise_cons.mpr ⟨fun z hz => ?_, ins_sorted x h'.2⟩
      rcases List.mem_cons.mp ((ins_perm x r).mem_iff.mp hz) with rfl | hz
      · omega
      · exact h'.1 z hz
theorem sortI_sorted : ∀ l : List Int, (sortI l).Pairwise (· ≤ ·)
  | [] => .nil
  | x :: r => ins_sorted x (sortI_sorted r)
theorem sorted_uniq : ∀ {l m : List Int}, l.Perm m → l.Pairwise (· ≤ ·) → m.Pairwise (· ≤ ·) → l = m := by
  intro l m p h1 h2
  exact List.Perm.eq_of_pairwise (fun a b _ _ h h' => Int.le_antisymm h h') h1 h2 p
def sortD : List D → Option D
  | [.list xs] => (intsOf xs).map fun is => .list ((sortI is).map .int)
  | _ => none
theorem cad_sorted : CaD X c.ns (rSortedI X.K) sortD := fun G H vs ds d Qk e s b k => by
  unfold sortD at e
  split at e
  · rename_i xs
    cases eb : intsOf xs with
    | none => rw [eb] at e; cases e
    | some bs =>
      rw [eb] at e
      cases e
      obtain rfl := ints_eq eb
      obtain ⟨v, ws, rfl, b1, b2⟩ := b.cons_inv
      obtain rfl := b2.nil_inv
      obtain ⟨a, us, rfl, h1, q1⟩ := b1.list s
      obtain rfl := q1.ints_inv
      refine ⟨a, bs, rfl, SqL.of h1, fun ns' p hp hs hn => ?_⟩
      have e : ns' = sortI bs := sorted_uniq (hp.trans (sortI_perm bs).symm) hs (sortI_sorted bs)
      rw [e]
      exact newL s QA.ints rfl k p hn
  · cases e
end
end M

namespace M
open PySem PySem.Spec PyProof.Rows L2
/-! ### the script -/
def isScr (i : Nat) (ρ : Rho) : Bool := match ρ[i]? with
  | some (.d (.dict [(.none, .none)])) => true
  | _ => false
section
variable {X : Cx} {c : Cm} {W : WM}
theorem scr_of {K : PySem.W.Frag} {G H : Hp} {ρ : Rho} {σ : L2.St} {i : Nat} (ok : Ok K c G H ρ σ) (h : isScr i ρ = true) : ∃ a, σ[i]? = some (some (.ref a)) ∧ SqL K H a (c.ns.l.map V.int) := by
  unfold isScr at h
  split at h
  · rename_i e
    obtain ⟨u, e2, q⟩ := ok.sl i _ e
    cases q with
    | scr h1 => exact ⟨_, e2, ok.s.same.seq h1⟩
    | obj j h1 h2 => cases h2
    | dk ks h1 h2 => cases ks <;> cases h2
    | dt ks h1 h2 => cases ks <;> cases h2
  · cases h
def lenS (ns : List Int) (i : Nat) : Rho → R D := fun ρ => if isScr i ρ then .ok (.int ns.length) else .bad
theorem me_lenS (i : Nat) {e : Expr} {p pos : Pos} (hg : Gl X "len") (hm : X.mg "len" = none) (hv : bootBuiltins "len" = some (.builtin "len")) (he : PE X e (tVar i)) (s1 : starEach [e] X.env = (false, eval e X.env) :: starEach [] X.env := by rfl) (hpl : (backTo pos (starEach [] X.env)).any (·.1) = false := by rfl) :
    ME X c W (.Call (.Name "len" p) [e] [] pos) (lenS c.ns.l i) :=
  PE.imp (pe_callB call_len hg hm hv (pa_cons he pa_nil s1) (by decide) (by decide) s1 hpl) fun σ H Qk ⟨G, ρ, ok, p⟩ => by
    unfold lenS at p
    by_cases h : isScr i ρ = true
    · rw [if_pos h] at p
      obtain ⟨a, e1, hs⟩ := scr_of ok h
      exact ⟨_, e1, _, c.ns.l.length, rfl, .inl ⟨_, hs, by simp⟩, p G H _ (Gr.refl ok.s) (.int _)⟩
    · rw [if_neg h] at p; exact p.elim
def ixS (ns : List Int) (i : Nat) (g : Rho → R D) : Rho → R D := fun ρ => if isScr i ρ then (g ρ).bind fun k => match k with
  | .int k => R.of ((atI ns k).map .int)
  | _ => .bad else .bad
theorem me_ixS (i : Nat) {e k : Expr} {g : Rho → R D} {pos : Pos} (he : PE X e (tVar i)) (hk : MB X c W k g) (hs : PlainIx k) : ME X c W (.Subscript e k pos) (ixS c.ns.l i g) :=
  PE.imp (pe_ix ix_list he hk hs) fun σ H Qk ⟨G, ρ, ok, p⟩ => by
    unfold ixS at p
    by_cases h : isScr i ρ = true
    · rw [if_pos h] at p
      obtain ⟨a, e1, _⟩ := scr_of ok h
      refine ⟨_, e1, step ok p fun x G1 H1 v _ g1 r1 ok1 p1 => ?_⟩
      obtain ⟨a', e1', hs'⟩ := scr_of ok1 h
      rw [e1] at e1'
      cases e1'
      cases x with
      | int k =>
        obtain rfl := r1.int
        dsimp only at p1
        cases ea : atI c.ns.l k with
        | none => rw [ea] at p1; exact p1.elim
        | some n =>
          rw [ea] at p1
          refine ⟨a, _, k, .int n, rfl, rfl, hs', ?_, p1 G1 H1 _ (Gr.refl ok1.s) (.int n)⟩
          unfold atI at ea ⊢
          rw [List.length_map]
          cases ei : ixN c.ns.l.length k with
          | none => rw [ei] at ea; cases ea
          | some j =>
            rw [ei] at ea
            show (c.ns.l.map V.int)[j]? = _
            rw [List.getElem?_map]
            rw [show c.ns.l[j]? = some n from ea]
            rfl
      | _ => exact p1.elim
    · rw [if_neg h] at p; exact p.elim
def nilS (ns : List Int) (i : Nat) : Rho → R Bool := fun ρ => if isScr i ρ then .ok (decide (ns = [])) else .bad
theorem dpS {K : PySem.W.Frag} {H : Hp} : ∀ ns : List Int, DpAll K H (ns.map V.int) (ns.map .int)
  | [] => .nil
  | n :: ns => .cons (.int n) (dpS ns)
theorem lay_ints : ∀ ns : List Int, PyData.canLayAll0 (ns.map .int) = true
  | [] => by simp [PyData.canLayAll0]
  | n :: ns => by simp [PyData.canLayAll0, PyData.canLay0, lay_ints ns]
theorem depth_ints : ∀ ns : List Int, PyData.depthAll (ns.map .int) = 0
  | [] => by simp [PyData.depthAll]
  | n :: ns => by simp [PyData.depthAll, PyData.depth, depth_ints ns]
theorem shaped_ints (ns : List Int) : SeqAt.shaped (.list (ns.map .int)) = true := by
  simp [SeqAt.shaped, PyData.canLay0, lay_ints, PyData.depth, depth_ints]
theorem shaped_tints (ns : List Int) : SeqAt.shaped (.tuple (ns.map .int)) = true := by
  simp [SeqAt.shaped, PyData.canLay0, lay_ints, PyData.depth, depth_ints]
theorem mt_nilS (hu : X.A.units + 64 < cLine) (i : Nat) {e : Expr} {pos pos2 : Pos} (he : PE X e (tVar i)) : MT X c W (.Compare e [.Eq] [.List [] pos2] pos) (nilS c.ns.l i) :=
  PT.imp (pt_cmpR (op_eqD hu) he (pe_lst pa_nil) (nomark _)) fun σ H Qk ⟨G, ρ, ok, p⟩ => by
    unfold nilS at p
    by_cases h : isScr i ρ = true
    · rw [if_pos h] at p
      obtain ⟨a, e1, hs⟩ := scr_of ok h
      refine ⟨_, e1, Nat.zero_le _, fun q hq => ?_⟩
      have g2 : Gr G H G (upd H q (.lst [])) := Gr.own ok.s hq
      obtain ⟨a', e1', hs'⟩ := scr_of (ok.gr g2) h
      rw [e1] at e1'
      cases e1'
      refine ⟨.list (c.ns.l.map .int), .list [], .lst hs' (dpS _), .lst (SqL.of upd_same) .nil, shaped_ints _, by decide +kernel, _, rfl, ?_⟩
      have e2 : PyData.eqv (.list (c.ns.l.map .int)) (.list []) = decide (c.ns.l = []) := by
        cases c.ns.l with
        | nil => simp [PyData.eqv, PyData.eqvAll]
        | cons n ns => simp [PyData.eqv, PyData.eqvAll]
      rw [e2]
      exact p G _ _ g2 rfl
    · rw [if_neg h] at p; exact p.elim
end
/-- the script's cell at k -/
def cell (ns : List Int) (k : Int) : Int := if k < ns.length then (atI ns k).getD 0 else if ns = [] then 0 else (atI ns (k % ns.length)).getD 0 * 31 + k
def pick (ns : List Int) (k many : Int) : Int :=
  let drawn := (cell ns k + 6151 * (k + 1)) * 40692 % 2147483399
  (drawn * drawn + drawn / 31) % 2147483629 % many
theorem pick_lo {ns : List Int} {k many : Int} (h : 0 < many) : 0 ≤ pick ns k many := Int.emod_nonneg _ (by omega)
theorem pick_hi {ns : List Int} {k many : Int} (h : 0 < many) : pick ns k many < many := Int.emod_lt_of_pos _ h
/-- a promise by another function that tells the same -/
theorem FnOk.by {P : Program} {w : World} {K : PySem.W.Frag} {mg : Str → Option Value} {base : Heap} {CX : CXT} {k : Nat} {f : Addr} {fd : FuncData} {ps : List Str} {ns : Sc} {m m' : List D → Out} (F : FnOk P w K mg base CX k f fd ps (spM K ns mg m)) (h : ∀ ds, m' ds ≠ .bad → m ds = m' ds) : FnOk P w K mg base CX k f fd ps (spM K ns mg m') :=
  F.imp fun vs H Qk E ⟨G, ds, s, q, p⟩ => ⟨G, ds, s, q, by
    by_cases hb : m' ds = .bad
    · rw [hb] at p; exact p.elim
    · rw [h ds hb]; exact p⟩
/-- _law_cell, _law_pick as functions of the script's draws -/
def cellF (C : Int → Int) : List D → Out
  | [.dict [(.none, .none)], .int k] => if 0 ≤ k then .rt (.int (C k)) else .bad
  | _ => .bad
def pickF (P : Int → Int → Int) : List D → Out
  | [.dict [(.none, .none)], .int k, .int m] => if 0 ≤ k ∧ 0 < m then .rt (.int (P k m)) else .bad
  | _ => .bad
end M

namespace M
open PySem PySem.Spec PyProof.Rows L2
/-! ### built-ins by name -/
theorem bt_len : bootBuiltins "len" = some (.builtin "len") := by decide +kernel
theorem bt_abs : bootBuiltins "abs" = some (.builtin "abs") := by decide +kernel
theorem bt_all : bootBuiltins "all" = some (.builtin "all") := by decide +kernel
theorem bt_any : bootBuiltins "any" = some (.builtin "any") := by decide +kernel
theorem bt_sum : bootBuiltins "sum" = some (.builtin "sum") := by decide +kernel
theorem bt_min : bootBuiltins "min" = some (.builtin "min") := by decide +kernel
theorem bt_max : bootBuiltins "max" = some (.builtin "max") := by decide +kernel
theorem bt_sorted : bootBuiltins "sorted" = some (.builtin "sorted") := by decide +kernel
theorem bt_isinstance : bootBuiltins "isinstance" = some (.builtin "isinstance") := by decide +kernel
theorem bt_int : bootBuiltins "int" = some (.type "int") := by decide +kernel
theorem bt_bool : bootBuiltins "bool" = some (.type "bool") := by decide +kernel
theorem bt_str : bootBuiltins "str" = some (.type "str") := by decide +kernel
theorem bt_list : bootBuiltins "list" = some (.type "list") := by decide +kernel
theorem bt_tuple : bootBuiltins "tuple" = some (.type "tuple") := by decide +kernel
theorem bt_dict : bootBuiltins "dict" = some (.type "dict") := by decide +kernel
theorem bt_set : bootBuiltins "set" = some (.type "set") := by decide +kernel
section
variable {X : Cx} {c : Cm} {W : WM}
/-! ### lists that are made, as one's own -/
def OpN (X : Cx) (ns : Sc) (r : R2) (o : D → D → Option (List D)) : Prop := ∀ (G H : Hp) (v w : V) (x y : D) (ds : List D) (Qk : VK), o x y = some ds → Sub G H → B X.K ns G H v x → B X.K ns G H w y → (∀ us, QA X.K ns G us ds → ∀ p, H p = none → Qk (.ref p) (upd H p (.lst us))) → r v w H Qk
theorem mn_op {op : Operator} {r : R2} {o : D → D → Option (List D)} {a b : Expr} {f g : Rho → R D} {pos : Pos} (ho : OpR X (binaryOp op) r) (hr : OpN X c.ns r o) (ha : MB X c W a f) (hb : MB X c W b g) : MN X c W (.BinOp a op b pos) (nO (e2 o f g)) :=
  PE.imp (pe_op ho ha hb) fun σ H Qk ⟨G, ρ, ok, p⟩ => by
    have e0 : nO (e2 o f g) ρ = (f ρ).bind fun x => (g ρ).bind fun y => (R.of (o x y)).bind fun xs => .ok (.o xs) := by
      unfold nO e2
      cases f ρ with
      | ok x => cases g ρ <;> rfl
      | _ => rfl
    rw [e0] at p
    exact stepN ok p fun x G1 H1 v _ g1 r1 ok1 p1 => stepN ok1 p1 fun y G2 H2 w _ g2 r2 ok2 p2 => by
      cases e : o x y with
      | none => rw [e] at p2; exact p2.elim
      | some ds =>
        rw [e] at p2
        exact hr G2 H2 v w x y ds Qk e ok2.s (r1.gr g2) r2 fun us q p hp => p2 G2 _ _ (Gr.own ok2.s hp) ⟨p, us, rfl, upd_same, ok2.s.free hp, Nw.none hp, q⟩
def catN : D → D → Option (List D)
  | .list xs, .list ys => if xs.length + ys.length ≤ 1000000 then some (xs ++ ys) else none
  | _, _ => none
theorem opn_cat : OpN X c.ns rCat catN := fun G H v w x y d Qk e s b1 b2 k => by
  unfold catN at e
  split at e
  · split at e
    · rename_i hl
      cases e
      obtain ⟨a, us, rfl, h1, q1⟩ := b1.list s
      obtain ⟨b, ws, rfl, h2, q2⟩ := b2.list s
      exact ⟨a, b, us, ws, rfl, rfl, h1, h2, by rw [q1.length, q2.length]; exact sz hl, k _ (q1.append q2)⟩
    · cases e
  · cases e
def repN : D → D → Option (List D)
  | .list xs, .int k => if k ≤ 1000000 ∧ -1000000 ≤ k ∧ xs.length * k.toNat ≤ 1000000 then some (rep k.toNat xs) else none
  | _, _ => none
theorem opn_rep : OpN X c.ns rRep repN := fun G H v w x y d Qk e s b1 b2 k => by
  unfold repN at e
  split at e
  · split at e
    · rename_i hc
      cases e
      obtain ⟨a, us, rfl, h1, q1⟩ := b1.list s
      obtain rfl := b2.int
      exact ⟨a, _, us, rfl, rfl, h1, by omega, by omega, by rw [q1.length]; exact sz hc.2.2, k _ (q1.rep _)⟩
    · cases e
  · cases e
end
end M

namespace M
open PySem PySem.Spec PyProof.Rows L2
def idxE (f g : Rho → R D) : Rho → R D := fun ρ => (f ρ).bind fun d => match d with
    | .list ds => (g ρ).bind fun x => R.of (idxL (.list ds) x)
    | _ => .bad
theorem scr_unt {K : PySem.W.Frag} {H : Hp} {a : Addr} {xs : List V} (h : SqL K H a xs) : SqL K (unt H) a xs := by
  rcases h with (h | ⟨o, h⟩) | h
  · exact .inl (.inl (by unfold unt; rw [h]))
  · exact .inl (.inr ⟨o, by unfold unt; rw [h]⟩)
  · exact .inr h
theorem cell_mir (ns : List Int) : ∀ ds, cellF (cell ns) ds ≠ .bad → fnM0 2 2 (sSeq (sIf (e2 ltD (bnm 1) (lenS ns 0)) (sRet (ixS ns 0 (bnm 1))) sNil) (sSeq (sIf (nilS ns 0) (sRet (cst (.int 0))) sNil) (sRet (e2 addD (e2 mulD (ixS ns 0 (e2 modD (bnm 1) (lenS ns 0))) (cst (.int 31))) (bnm 1))))) ds = cellF (cell ns) ds := by
  intro ds hb
  unfold cellF at hb ⊢
  split at hb
  · rename_i k
    split at hb
    · rename_i hk
      rw [if_pos hk]
      have key : ∀ j : Int, 0 ≤ j → j < ns.length → ∃ n, atI ns j = some n := fun j h0 h1 => by
        unfold atI ixN
        rw [if_pos h0, if_pos h1]
        exact ⟨ns[j.toNat]'(by omega), List.getElem?_eq_getElem (by omega)⟩
      unfold cell
      by_cases h1 : k < (ns.length : Int)
      · obtain ⟨n, hn⟩ := key k hk h1
        simp [fnM0, fnM, sSeq, sIf, e2, bnm, lenS, isScr, R.bind, R.of, R.out, ltD, h1, sRet, ixS, hn]
      · by_cases h2 : ns = []
        · subst h2
          have h0 : ¬ k < 0 := by omega
          simp [h0, fnM0, fnM, sSeq, sIf, e2, bnm, lenS, isScr, R.bind, R.of, R.out, ltD, h1, sRet, ixS, sNil, nilS, cst]
        · have hpos : (0 : Int) < ns.length := by
            have : 0 < ns.length := List.length_pos_iff.mpr h2
            omega
          obtain ⟨n, hn⟩ := key (k % ns.length) (Int.emod_nonneg _ (by omega)) (Int.emod_lt_of_pos _ hpos)
          have h3 : (0 : Int) < (ns.length : Int) := hpos
          simp [fnM0, fnM, sSeq, sIf, e2, bnm, lenS, isScr, R.bind, R.of, R.out, ltD, h1, sRet, ixS, sNil, nilS, cst, h2, modD, mulD, addD, hn]
          rw [if_pos (List.length_pos_iff.mpr h2)]
          simp [hn]
    · exact absurd rfl hb
  · exact absurd rfl hb
def pickB (f : List D → Out) : Rho → Out := sSeq (sSet 3 (nD (e2 modD (e2 mulD (e2 addD (call f (cons' (nm 0) (cons' (nm 1) (cst [])))) (e2 mulD (cst (.int 6151)) (e2 addD (bnm 1) (cst (.int 1))))) (cst (.int 40692))) (cst (.int 2147483399)))))
  (sRet (e2 modD (e2 modD (e2 addD (e2 mulD (bnm 3) (bnm 3)) (e2 fdivD (bnm 3) (cst (.int 31)))) (cst (.int 2147483629))) (bnm 2)))
theorem pick_mir (ns : List Int) : ∀ ds, pickF (pick ns) ds ≠ .bad → fnM0 3 4 (pickB (cellF (cell ns))) ds = pickF (pick ns) ds := by
  intro ds hb
  unfold pickF at hb ⊢
  split at hb
  · rename_i k m
    split at hb
    · rename_i hk
      rw [if_pos hk]
      have hd : ∀ x : Int, (-18446744073709551616 < x % 2147483399 ∧ x % 2147483399 < 18446744073709551616) := fun x => by
        have h1 := Int.emod_nonneg x (show (2147483399 : Int) ≠ 0 by decide)
        have h2 := Int.emod_lt_of_pos x (show (0 : Int) < 2147483399 by decide)
        omega
      have hz := hd ((cell ns k + 6151 * (k + 1)) * 40692)
      simp [pickB, fnM0, fnM, sSeq, sSet, nD, e2, bnm, nm, R.bind, R.of, R.out, sRet, cst, modD, mulD, addD, fdivD, call, cons', cellF, hk.1, hk.2, Out.r, pick, hz]
    · exact absurd rfl hb
  · exact absurd rfl hb
end M

namespace M
open PySem
/-! ### plain facts about the mirrors' words -/
theorem eqvAll_ints : ∀ xs ys : List Int, PyData.eqvAll (xs.map .int) (ys.map .int) = decide (xs = ys)
  | [], [] => by simp [PyData.eqvAll]
  | [], y :: ys => by simp [PyData.eqvAll]
  | x :: xs, [] => by simp [PyData.eqvAll]
  | x :: xs, y :: ys => by
    simp only [List.map_cons, PyData.eqvAll, PyData.eqv, eqvAll_ints xs ys, List.cons.injEq, Bool.decide_and]
    congr 1
theorem eqD_ints (xs ys : List Int) : eqD (.list (xs.map .int)) (.list (ys.map .int)) = some (decide (xs = ys)) := by
  unfold eqD
  rw [shaped_ints, shaped_ints, if_pos (by rfl)]
  simp only [PyData.eqv, eqvAll_ints]
theorem eqD_tints (xs ys : List Int) : eqD (.tuple (xs.map .int)) (.tuple (ys.map .int)) = some (decide (xs = ys)) := by
  unfold eqD
  rw [shaped_tints, shaped_tints, if_pos (by rfl)]
  simp only [PyData.eqv, eqvAll_ints]
theorem neD_ints (xs ys : List Int) : neD (.list (xs.map .int)) (.list (ys.map .int)) = some (!decide (xs = ys)) := by
  unfold neD
  rw [shaped_ints, shaped_ints, if_pos (by rfl)]
  simp only [PyData.eqv, eqvAll_ints]
theorem neD_tints (xs ys : List Int) : neD (.tuple (xs.map .int)) (.tuple (ys.map .int)) = some (!decide (xs = ys)) := by
  unfold neD
  rw [shaped_tints, shaped_tints, if_pos (by rfl)]
  simp only [PyData.eqv, eqvAll_ints]
theorem shaped_int (i : Int) : SeqAt.shaped (.int i) = true := by simp [SeqAt.shaped, PyData.canLay0, PyData.depth]
theorem shaped_none : SeqAt.shaped .none = true := by simp [SeqAt.shaped, PyData.canLay0, PyData.depth]
theorem shaped_bool (b : Bool) : SeqAt.shaped (.bool b) = true := by simp [SeqAt.shaped, PyData.canLay0, PyData.depth]
theorem shaped_nil : SeqAt.shaped (.list []) = true := shaped_ints []
theorem shaped_tnil : SeqAt.shaped (.tuple []) = true := shaped_tints []
theorem eqD_int (i j : Int) : eqD (.int i) (.int j) = some (decide (i = j)) := by
  unfold eqD
  rw [shaped_int, shaped_int, if_pos (by rfl)]
  simp only [PyData.eqv]
  congr 1
theorem neD_int (i j : Int) : neD (.int i) (.int j) = some (!decide (i = j)) := by
  unfold neD
  rw [shaped_int, shaped_int, if_pos (by rfl)]
  simp only [PyData.eqv]
  congr 1
theorem neD_nil (xs : List Int) : neD (.list (xs.map .int)) (.list []) = some (!decide (xs = [])) := neD_ints xs []
theorem eqD_nil (xs : List Int) : eqD (.list (xs.map .int)) (.list []) = some (decide (xs = [])) := eqD_ints xs []
/-- None or a number -/
def optD : Option Int → D
  | none => .none
  | some i => .int i
theorem shaped_opt (o : Option Int) : SeqAt.shaped (optD o) = true := by
  cases o
  · exact shaped_none
  · exact shaped_int _
theorem neD_opt (a b : Option Int) : neD (optD a) (optD b) = some (!decide (a = b)) := by
  unfold neD
  rw [shaped_opt, shaped_opt, if_pos (by rfl)]
  cases a <;> cases b <;> simp [optD, PyData.eqv]
  congr 1
theorem eqD_opt (a b : Option Int) : eqD (optD a) (optD b) = some (decide (a = b)) := by
  unfold eqD
  rw [shaped_opt, shaped_opt, if_pos (by rfl)]
  cases a <;> cases b <;> simp [optD, PyData.eqv]
  congr 1
/-- a comprehension whose turns are known -/
theorem lcL_map {α : Type} {b : D → Rho → Option Rho} {t : Rho → R Bool} {f : Rho → R D} {ρ : Rho} (d : α → D) (β : α → Rho) (T : α → Bool) (F : α → D) :
    ∀ xs : List α, (∀ x ∈ xs, b (d x) ρ = some (β x) ∧ t (β x) = .ok (T x) ∧ (T x = true → f (β x) = .ok (F x))) → lcL b t f ρ (xs.map d) = some ((xs.filter T).map F)
  | [], _ => rfl
  | x :: xs, h => by
    obtain ⟨h1, h2, h3⟩ := h x (by simp)
    have ih := lcL_map d β T F xs fun y hy => h y (by simp [hy])
    rw [List.map_cons]
    unfold lcL
    rw [h1]
    dsimp only
    rw [h2]
    cases hT : T x with
    | true => simp [h3 hT, ih, hT]
    | false => simp [ih, hT]
theorem rng_map (lo : Int) (n : Nat) : rng lo n = ((List.range n).map fun (i : Nat) => lo + (i : Int)).map .int := by
  unfold rng
  rw [List.map_map]
  rfl
theorem rgv_map (a b : Int) : rgv a b = ((List.range (b - a).toNat).map fun (i : Nat) => a + (i : Int)).map .int := by
  unfold rgv
  rw [List.map_map]
  rfl
end M
namespace M
section
variable {b : D → Rho → Option Rho} {body : Rho → Out} {x : D} {xs : List D} {ρ ρ1 ρ2 : Rho}
theorem forL_nx (h1 : b x ρ = some ρ1) (h2 : body ρ1 = .nx ρ2) : forL b body (x :: xs) ρ = forL b body xs ρ2 := by
  rw [forL, h1]
  dsimp only
  rw [h2]
theorem forL_ct (h1 : b x ρ = some ρ1) (h2 : body ρ1 = .ct ρ2) : forL b body (x :: xs) ρ = forL b body xs ρ2 := by
  rw [forL, h1]
  dsimp only
  rw [h2]
theorem forL_bk (h1 : b x ρ = some ρ1) (h2 : body ρ1 = .bk ρ2) : forL b body (x :: xs) ρ = .nx ρ2 := by
  rw [forL, h1]
  dsimp only
  rw [h2]
theorem forL_rt {d : D} (h1 : b x ρ = some ρ1) (h2 : body ρ1 = .rt d) : forL b body (x :: xs) ρ = .rt d := by
  rw [forL, h1]
  dsimp only
  rw [h2]
theorem forL_nil : forL b body [] ρ = .nx ρ := rfl
end
/-- a loop by an invariant: st i is the state ahead of turn i -/
theorem forL_inv {b : D → Rho → Option Rho} {body : Rho → Out} {xs : List D} (st : Nat → Rho → Prop) (hs : ∀ (i : Nat) (x : D) (ρ : Rho), xs[i]? = some x → st i ρ → ∃ ρ1 ρ2, b x ρ = some ρ1 ∧ body ρ1 = .nx ρ2 ∧ st (i + 1) ρ2) :
    ∀ ρ, st 0 ρ → ∃ ρ', forL b body xs ρ = .nx ρ' ∧ st xs.length ρ' := by
  induction xs generalizing st with
  | nil => exact fun ρ h => ⟨ρ, rfl, h⟩
  | cons x xs ih =>
    intro ρ h
    obtain ⟨ρ1, ρ2, h1, h2, h3⟩ := hs 0 x ρ rfl h
    obtain ⟨ρ', e, h4⟩ := ih (fun i => st (i + 1)) (fun i y ρ hy hst => hs (i + 1) y ρ (by simpa using hy) hst) ρ2 h3
    exact ⟨ρ', by rw [forL_nx h1 h2]; exact e, h4⟩
end M
namespace M
theorem lcL_all {α : Type} {b : D → Rho → Option Rho} {f : Rho → R D} {ρ : Rho} (d : α → D) (β : α → Rho) (F : α → D) (xs : List α)
    (h : ∀ x ∈ xs, b (d x) ρ = some (β x) ∧ f (β x) = .ok (F x)) : lcL b yes f ρ (xs.map d) = some (xs.map F) := by
  rw [lcL_map d β (fun _ => true) F xs fun x hx => ⟨(h x hx).1, rfl, fun _ => (h x hx).2⟩, List.filter_eq_self.mpr fun _ _ => rfl]
end M
namespace M
theorem seq_nx {f g : Rho → Out} {ρ ρ' : Rho} (h : f ρ = .nx ρ') : sSeq f g ρ = g ρ' := by unfold sSeq; rw [h]
theorem seq_rt {f g : Rho → Out} {ρ : Rho} {d : D} (h : f ρ = .rt d) : sSeq f g ρ = .rt d := by unfold sSeq; rw [h]
theorem seq_rf {f g : Rho → Out} {ρ : Rho} {d : List D} (h : f ρ = .rf d) : sSeq f g ρ = .rf d := by unfold sSeq; rw [h]
theorem seq_if_true {t : Rho → R Bool} {f g h : Rho → Out} {ρ : Rho} {o : Out} (e : t ρ = .ok true) (e' : f ρ = o) (ho : sSeq (fun _ => o) h ρ = o) : sSeq (sIf t f g) h ρ = o := by
  unfold sSeq sIf at *
  rw [e]
  show (match f ρ with | _ => _) = _
  rw [e']
  exact ho
theorem fn_rt {ar n : Nat} {body : Rho → Out} {ds : List D} {x : D} (hl : ds.length = ar) (h : body (ds.map .d ++ List.replicate (n - ds.length) .no) = .rt x) : fnM0 ar n body ds = .rt x := by
  unfold fnM0 fnM
  rw [if_pos hl, h]
theorem fn_rf {ar n : Nat} {body : Rho → Out} {ds : List D} {x : List D} (hl : ds.length = ar) (h : body (ds.map .d ++ List.replicate (n - ds.length) .no) = .rf x) : fnM0 ar n body ds = .rf x := by
  unfold fnM0 fnM
  rw [if_pos hl, h]
theorem fn_nx {ar n : Nat} {body : Rho → Out} {ds : List D} {ρ : Rho} (hl : ds.length = ar) (h : body (ds.map .d ++ List.replicate (n - ds.length) .no) = .nx ρ) : fnM0 ar n body ds = .rt .none := by
  unfold fnM0 fnM
  rw [if_pos hl, h]
/-- a script's draws -/
structure Dr (P : Int → Int → Int) : Prop where
  lo : ∀ k m : Int, 0 < m → 0 ≤ P k m
  hi : ∀ k m : Int, 0 < m → P k m < m
theorem dr_pick (ns : List Int) : Dr (pick ns) := ⟨fun _ _ h => pick_lo h, fun _ _ h => pick_hi h⟩
end M
namespace M
theorem lenD_list (xs : List D) : lenD [.list xs] = some (.int xs.length) := rfl
theorem lenD_tuple (xs : List D) : lenD [.tuple xs] = some (.int xs.length) := rfl
end M

namespace Mset
open PySem PySem.Spec PyProof.Rows L2
/-! ### set(xs) of a list of ints -/
abbrev nset (w : World) : Obj := { cls := .type "set", dict := none, data := .set #[] 0 (.fresh 0 0 (!w.params.followText "set-order")) }
section
variable {P : Program} {w : World} {A : Around} {E : Value → Shared → Prop} {s : Shared}
/-- behind set.__init__ of a list -/
def Behind (w : World) (s : Shared) (ns : List Int) (r : Value) (t : Shared) : Prop := r = .none ∧ ∃ h' tk c, t = { s with heap := h', toks := tk } ∧ SetR w h' s.heap.objs.size (fun j => decide (j ∈ ns)) c ∧ c ≤ ns.length ∧ ∀ b o, s.heap.get? b = some o → h'.get? b = some o
theorem at_int {its : Array Value} {ns : List Int} (hi : IntsAre its.toList ns) (hz : its.size = ns.length) (i : Nat) (v : Value) (hv : its[i]? = some v) : ∃ k t, ns[i]? = some k ∧ v = .int k t := by
  have hl : i < ns.length := hz ▸ (Array.getElem?_eq_some_iff.mp hv).1
  obtain ⟨t, e⟩ := IntsAre.int_at hi i v ((Array.getElem?_toList ..).trans hv)
  exact ⟨ns[i], t, List.getElem?_eq_getElem hl, by rw [e, List.getD_eq_getElem?_getD, List.getElem?_eq_getElem hl] <;> rfl⟩
set_option maxRecDepth 100000 in
set_option maxHeartbeats 3200000 in
theorem of_list {l : Addr} {its : Array Value} (ns : List Int) {Q : Value → Shared → Prop} (hd : A.handled = none) (pl : s.heap.IsList l its) (hi : IntsAre its.toList ns) (hb : ns.length + 1 < scanBound)
    (k : ∀ (h' : Heap) (tk c : Nat), SetR w h' s.heap.objs.size (fun j => decide (j ∈ ns)) c → c ≤ ns.length → (∀ b o, s.heap.get? b = some o → h'.get? b = some o) → Q (.ref s.heap.objs.size) { s with heap := h', toks := tk }) :
    wpAny (model P w) A (call (.type "set") [.ref l]) Q E s := by
  have hz : its.size = ns.length := by have := IntsAre.length hi; rwa [Array.length_toList] at this
  obtain ⟨_, _, hmro⟩ := F.called_set.mro
  have i1 := F.called_set.made; have i2 := F.called_set.sub
  refine wpAny_call (codeAny_of_tree (?_ : wpAny _ _ (callAny (.type "set") _) _ _ _))
  refine wpAny_pure ⟨Code.quiet_builtin _ (by decide +kernel), codeAny_builtin F.entry_type_call ?_⟩
  rw [Around.under_plain (weight_type_call_type "set" [.ref l] []) rfl]
  have i3 := F.called_set.notType; have i4 := F.called_set.canCreate; have i5 := F.typeCall_set_1 (.ref l)
  repeat (any_goals (first | assumption | wp_step))
  refine codeAny_mono (code_set_led1 (.ref l) (E := E) (Q₁ := fun obj t => obj = .ref s.heap.objs.size ∧ t = { s with heap := s.heap.push (nset w) }) ⟨rfl, rfl⟩) fun r t ht => ?_
  match r, ht with
  | .error _, ht => exact ht
  | .ok .next, ht => exact ht.elim
  | .ok .brk, ht => exact ht.elim
  | .ok .cont, ht => exact ht.elim
  | .ok (.ret _), ⟨e1, e2⟩ =>
    subst e1 e2
    have hS : (s.heap.push (nset w)).get? s.heap.objs.size = some (nset w) := Heap.get?_push_size _ rfl
    have hT : Shared.TypeIs { s with heap := s.heap.push (nset w) } (.ref s.heap.objs.size) "set" := ⟨_, hS, rfl⟩
    have j1 := F.called_set.init.lookup; have j2 := F.called_set.init.bind (.ref s.heap.objs.size)
    repeat (any_goals (first | assumption | wp_step))
    refine codeAny_mono (codeAny_call_builtin (R := wants (Behind w s ns) E) F.called_set.init.plain F.entry_set_init (check_set_init_1 hT ?_)) fun r₂ t₂ h₂ => ?_
    · obtain ⟨⟨oc, od, odt, osl⟩, ho, hc, n, hdt⟩ := pl
      dsimp only at hc hdt
      subst hc hdt
      have ho' : (s.heap.push (nset w)).get? l = some { cls := .type "list", dict := od, data := .seq its n, slots := osl } := Heap.get?_push_of_some _ ho
      have m1 := F.sub_list_set; have m2 := F.sub_list_frozenset
      have m3 : (Value.type "list" == Value.type "dict") = false := by decide
      have pl' : (s.heap.push (nset w)).IsList l its := ⟨_, ho', rfl, n, rfl⟩
      unfold Builtin.«set.__init__» noKeywords Builtin.Frozenset.updateFrom
      generalize hPI : pyIter = PI
      wp_walk
      subst hPI
      refine wpAny_pyIter_list pl' (wpAny_bind (wpAny_runValue ?_))
      have lt : l < s.heap.objs.size := Heap.lt_size ho
      have ne : l ≠ (s.heap.push (nset w)).objs.size := (Heap.size_push s.heap (nset w)) ▸ Nat.ne_of_lt (Nat.lt_succ_of_lt lt)
      have nf : s.heap.objs.size ∉ [(s.heap.push (nset w)).objs.size, l] := by
        rw [Heap.size_push, List.mem_cons, List.mem_singleton]
        exact fun z => z.elim (Nat.ne_of_lt (Nat.lt_succ_self _)) (Nat.ne_of_gt lt)
      refine set_update_ints ((Walks.list (show A.in1.in1.in1.handled = none by simp [hd]) _ l ne its).toS) s.heap.objs.size nf ns hz hb (at_int hi hz) (its.size - 0) 0 _ (by omega) (Nat.zero_le _) ⟨⟨_, Heap.get?_push_size _ rfl, rfl, rfl⟩, pl'.push _⟩
        ⟨0, Nat.le_refl 0, setR_new_at (Heap.get?_push_of_some _ hS)⟩ fun t' c' hm hc' hS' => ?_
      obtain ⟨h', g2, d', tk', os'⟩ := t'
      obtain rfl : g2 = s.gens := hm.gens
      obtain rfl : d' = s.drawn := hm.drawn
      obtain rfl : os' = s.os := hm.os
      refine wpAny_pure (wpAny_pure ⟨rfl, h', tk', c', rfl, hS', hz ▸ hc', fun b o e => hm.heap b o ?_ (Heap.get?_push_of_some _ (Heap.get?_push_of_some _ e))⟩)
      have lb := Heap.lt_size e
      rw [List.mem_cons, List.mem_singleton, Heap.size_push]
      exact fun z => z.elim (Nat.ne_of_lt lb) (Nat.ne_of_lt (Nat.lt_succ_of_lt lb))
    · match r₂, h₂ with
      | .error _, h₂ => exact h₂
      | .ok .next, h₂ => exact h₂.elim
      | .ok .brk, h₂ => exact h₂.elim
      | .ok .cont, h₂ => exact h₂.elim
      | .ok (.ret _), ⟨e3, h', tk, c', e4, q1, q2, q3⟩ =>
        subst e3 e4
        repeat (any_goals (first | assumption | wp_step))
        exact k _ _ _ q1 q2 q3
end
end Mset
namespace Mset
open PySem PySem.Spec PyProof.Rows L2
def uniq : List Int → List Int
  | [] => []
  | x :: r => if x ∈ r then uniq r else x :: uniq r
theorem mem_uniq {x : Int} : ∀ {l : List Int}, x ∈ uniq l ↔ x ∈ l
  | [] => Iff.rfl
  | y :: r => by
    unfold uniq
    split
    · rename_i h
      rw [mem_uniq, List.mem_cons]
      exact ⟨.inr, fun z => z.elim (fun e => e ▸ h) id⟩
    · rw [List.mem_cons, List.mem_cons, mem_uniq]
theorem uniq_nodup : ∀ l : List Int, (uniq l).Nodup
  | [] => .nil
  | y :: r => by
    unfold uniq
    split
    · exact uniq_nodup r
    · rename_i h
      exact List.nodup_cons.mpr ⟨fun z => h (mem_uniq.mp z), uniq_nodup r⟩
theorem uniq_len : ∀ l : List Int, (uniq l).length ≤ l.length
  | [] => Nat.le_refl _
  | y :: r => by
    unfold uniq
    have := uniq_len r
    split <;> simp <;> omega
/-- the ints that are read at an address: a list's or a tuple's -/
def IntsAt (K : PySem.W.Frag) (H : Hp) (l : Addr) (ns : List Int) : Prop := SqL K H l (ns.map V.int) ∨ SqT K H l (ns.map V.int)
section
variable {X : Cx} {pins : List (Addr × Obj)} {σ : L2.St} {H : Hp} {s : Shared}
theorem made {l : Addr} {ns : List Int} {Q : Value → Shared → Prop} {E : Value → Shared → Prop} (hc : X.calm = true) (I : Inv X pins σ H s) (h : IntsAt X.K H l ns) (hb : ns.length ≤ 4000)
    (k : ∀ (h' : Heap) (tk n : Nat), SetR X.w h' s.heap.objs.size (fun j => decide (j ∈ ns)) n → n ≤ ns.length → (∀ b o, s.heap.get? b = some o → h'.get? b = some o) → Q (.ref s.heap.objs.size) { s with heap := h', toks := tk }) :
    wpAny (model X.prog X.w) X.A (call (.type "set") [.ref l]) Q E s := by
  have hs : ns.length + 1 < scanBound := by unfold scanBound; omega
  rcases h with h | h
  · obtain ⟨its, r, pl, _⟩ := I.list h
    exact of_list ns (I.ok.hd hc) pl.isList (by simpa using r.ints) hs k
  · obtain ⟨its, r, pl, _⟩ := I.tuple h
    exact call_set_tupI ns (I.ok.hd hc) (show s.heap.IsTuple l its.toArray from pl) (by simpa using r.ints) hs k
variable {a : Expr} {ta : TE} {p p2 q pos : Pos}
def tSortSet (K : PySem.W.Frag) (ta : TE) : TE := fun σ H Q => ta σ H fun x H1 => ∃ l ns, x = .ref l ∧ IntsAt K H1 l ns ∧ ns.length < 64 ∧ ∀ (ns' : List Int) (p : Addr), ns'.Pairwise (· < ·) → (∀ j : Int, j ∈ ns' ↔ j ∈ ns) → H1 p = none → Q (.ref p) (upd H1 p (.lst (ns'.map V.int)))
theorem pe_sortSet (hc : X.calm = true) (hg : Gl X "sorted") (hm : X.mg "sorted" = none) (hv : bootBuiltins "sorted" = some (.builtin "sorted")) (hg2 : Gl X "set") (hm2 : X.mg "set" = none) (ha : PE X a ta)
    (na : starEach [a] X.env = (false, eval a X.env) :: starEach [] X.env := by rfl) : PE X (.Call (.Name "sorted" p) [.Call (.Name "set" p2) [a] [] q] [] pos) (tSortSet X.K ta) := by
  refine ⟨fun pins s σ H Q I h => Call_ (ld_blt I hg hm hv (PyProof.Rows.callWith_builtin1 (PyProof.Rows.args_cons ?_ rfl) rfl rfl))⟩
  refine Call_ (ld_blt I hg2 hm2 boot_set (PyProof.Rows.callWith_type1 (PyProof.Rows.args_cons (thn (ha.run pins s σ H _ I h) fun v s1 ⟨x, H1, I1, r1, q1⟩ => PyProof.Rows.args_nil ?_) na) na rfl))
  obtain ⟨l, ns, rfl, hi, hl, q1⟩ := q1
  cases r1
  refine made hc I1 hi (by omega) fun h' tk n R hn hk => PyProof.Rows.args_nil ?_
  have I2 : Inv X pins σ H1 { s1 with heap := h', toks := tk } := I1.kept hk
  refine sorted_set R (I2.ok.hd hc) (by omega) fun s' p out c ns' k g o hp hgt hint hs hmem hlen => ?_
  have hz : (ns'.map V.int).length ≤ sizeLine := by rw [List.length_map, hlen, sizeLine_eq]; omega
  have J : Inv X pins σ (upd H1 p (.lst (ns'.map V.int))) s' := I2.call' (ch := []) o (Un.laid k hp (I2.hok.fresh hp)) (I2.hok.laid k hp ⟨hz, out.toList, c, vals_of_ints hint, hgt⟩) (by rw [g]; exact I2.bare) (fun _ z => nomatch z)
  exact ⟨.ref p, _, J, rfl, q1 ns' p hs (fun j => by rw [hmem j, decide_eq_true_iff]) (I2.hok.fresh hp)⟩
def tLenSet (K : PySem.W.Frag) (ta : TE) : TE := fun σ H Q => ta σ H fun x H1 => ∃ l ns, x = .ref l ∧ IntsAt K H1 l ns ∧ ns.length ≤ 4000 ∧ Q (.int (uniq ns).length) H1
theorem pe_lenSet (hc : X.calm = true) (hg : Gl X "len") (hm : X.mg "len" = none) (hg2 : Gl X "set") (hm2 : X.mg "set" = none) (ha : PE X a ta)
    (na : starEach [a] X.env = (false, eval a X.env) :: starEach [] X.env := by rfl) : PE X (.Call (.Name "len" p) [.Call (.Name "set" p2) [a] [] q] [] pos) (tLenSet X.K ta) := by
  refine ⟨fun pins s σ H Q I h => Call_ (ld_blt I hg hm boot_len (PyProof.Rows.callWith_builtin1 (PyProof.Rows.args_cons ?_ rfl) rfl rfl))⟩
  refine Call_ (ld_blt I hg2 hm2 boot_set (PyProof.Rows.callWith_type1 (PyProof.Rows.args_cons (thn (ha.run pins s σ H _ I h) fun v s1 ⟨x, H1, I1, r1, q1⟩ => PyProof.Rows.args_nil ?_) na) na rfl))
  obtain ⟨l, ns, rfl, hi, hl, q1⟩ := q1
  cases r1
  refine made hc I1 hi hl fun h' tk n R hn hk => PyProof.Rows.args_nil ?_
  have I2 : Inv X pins σ H1 { s1 with heap := h', toks := tk } := I1.kept hk
  obtain ⟨o, es, ep, t, ho, hex, hdt, g, nd, hmem, hb, hf, hsz, hr, hl2⟩ := R
  have hcount : n = (uniq ns).length := by
    have pm : (es.toList.map keyOf).Perm (uniq ns) := (List.perm_ext_iff_of_nodup nd (uniq_nodup ns)).mpr fun j => by
      rw [← hmem j, mem_uniq, decide_eq_true_iff]
    rw [← pm.length_eq, List.length_map, Array.length_toList]
    exact hsz.symm
  refine call_len_set ho hex hdt hf (by rw [hsz]; omega) ⟨.int (uniq ns).length, H1, I2.tok _, ⟨_, by rw [hsz, hcount]⟩, q1⟩
end
end Mset
namespace M
open PySem PySem.Spec PyProof.Rows L2
def itemsInt : D → Option (List Int)
  | .list xs => intsOf xs
  | .tuple xs => intsOf xs
  | _ => none
def sortSetD : D → Option D := fun d => match itemsInt d with
  | some is => if is.length < 64 then some (.list ((sortI (Mset.uniq is)).map .int)) else none
  | none => none
def lenSetD : D → Option D := fun d => match itemsInt d with
  | some is => if is.length ≤ 4000 then some (.int (Mset.uniq is).length) else none
  | none => none
theorem ints_at {K : PySem.W.Frag} {ns : Sc} {G H : Hp} {v : V} {d : D} {is : List Int} (s : Sub G H) (b : B K ns G H v d) (e : itemsInt d = some is) : ∃ l, v = .ref l ∧ Mset.IntsAt K H l is := by
  unfold itemsInt at e
  split at e
  · obtain rfl := ints_eq e
    obtain ⟨a, us, rfl, h1, q1⟩ := b.list s
    obtain rfl := q1.ints_inv
    exact ⟨a, rfl, .inl (SqL.of h1)⟩
  · obtain rfl := ints_eq e
    obtain ⟨a, us, rfl, h1, q1, _⟩ := b.tuple s
    obtain rfl := q1.ints_inv
    exact ⟨a, rfl, .inr h1⟩
  · cases e
theorem lt_le {l : List Int} (h : l.Pairwise (· < ·)) : l.Pairwise (· ≤ ·) := h.imp fun h => Int.le_of_lt h
theorem sortI_mem {x : Int} {l : List Int} : x ∈ sortI l ↔ x ∈ l := (sortI_perm l).mem_iff
theorem lt_nodup {l : List Int} (h : l.Pairwise (· < ·)) : l.Nodup := h.imp fun h => Int.ne_of_lt h
section
variable {X : Cx} {c : Cm} {W : WM} {a : Expr} {f : Rho → R D} {p p2 q pos : Pos}
theorem me_sortSet (hc : X.calm = true) (hg : Gl X "sorted") (hm : X.mg "sorted" = none) (hg2 : Gl X "set") (hm2 : X.mg "set" = none) (ha : MB X c W a f) (na : starEach [a] X.env = (false, eval a X.env) :: starEach [] X.env := by rfl) :
    ME X c W (.Call (.Name "sorted" p) [.Call (.Name "set" p2) [a] [] q] [] pos) (e1 sortSetD f) :=
  PE.imp (Mset.pe_sortSet hc hg hm bt_sorted hg2 hm2 ha na) fun σ H Qk ⟨G, ρ, ok, p⟩ => step ok p fun x G1 H1 v _ g1 r1 ok1 p1 => by
    unfold sortSetD at p1
    cases e : itemsInt x with
    | none => rw [e] at p1; exact p1.elim
    | some is =>
      rw [e] at p1
      dsimp only at p1
      by_cases hl : is.length < 64
      · rw [if_pos hl] at p1
        obtain ⟨l, rfl, hi⟩ := ints_at ok1.s r1 e
        refine ⟨l, is, rfl, hi, hl, fun ns' p hs hmem hp => ?_⟩
        have pm : ns'.Perm (sortI (Mset.uniq is)) := (List.perm_ext_iff_of_nodup (lt_nodup hs) ((sortI_perm _).nodup_iff.mpr (Mset.uniq_nodup is))).mpr fun j => by
          rw [hmem j, sortI_mem, Mset.mem_uniq]
        rw [sorted_uniq pm (lt_le hs) (sortI_sorted _)]
        exact newL ok1.s QA.ints rfl p1 p hp
      · rw [if_neg hl] at p1; exact p1.elim
theorem me_lenSet (hc : X.calm = true) (hg : Gl X "len") (hm : X.mg "len" = none) (hg2 : Gl X "set") (hm2 : X.mg "set" = none) (ha : MB X c W a f) (na : starEach [a] X.env = (false, eval a X.env) :: starEach [] X.env := by rfl) :
    ME X c W (.Call (.Name "len" p) [.Call (.Name "set" p2) [a] [] q] [] pos) (e1 lenSetD f) :=
  PE.imp (Mset.pe_lenSet hc hg hm hg2 hm2 ha na) fun σ H Qk ⟨G, ρ, ok, p⟩ => step ok p fun x G1 H1 v _ g1 r1 ok1 p1 => by
    unfold lenSetD at p1
    cases e : itemsInt x with
    | none => rw [e] at p1; exact p1.elim
    | some is =>
      rw [e] at p1
      dsimp only at p1
      by_cases hl : is.length ≤ 4000
      · rw [if_pos hl] at p1
        obtain ⟨l, rfl, hi⟩ := ints_at ok1.s r1 e
        exact ⟨l, is, rfl, hi, hl, p1 G1 H1 _ (Gr.refl ok1.s) (.int _)⟩
      · rw [if_neg hl] at p1; exact p1.elim
end
end M

namespace M
open PySem PySem.Spec PyProof.Rows L2
/-! ### enumerate(xs), a list -/
def enumD (xs : List D) : List D := xs.mapIdx fun i x => .tuple [.int (i : Nat), x]
theorem enum_get {xs : List D} {i : Nat} {d : D} (h : (enumD xs)[i]? = some d) : ∃ x, xs[i]? = some x ∧ d = .tuple [.int (i : Nat), x] := by
  unfold enumD at h
  rw [List.getElem?_mapIdx] at h
  cases e : xs[i]? with
  | none => rw [e] at h; cases h
  | some x =>
    rw [e] at h
    cases h
    exact ⟨x, rfl, rfl⟩
theorem it_enumL {K : PySem.W.Frag} {ns : Sc} {a : Addr} {us : List V} {xs : List D} : ItOk K ns (Ite K a) (fun G => G a = some (.lst us) ∧ QA K ns G us xs) (enumD xs) where
  mono := fun G G' s p => ⟨s _ _ p.1, QA.mono s _ _ p.2⟩
  go := fun G H i d p s e => by
    obtain ⟨x, e1, rfl⟩ := enum_get e
    obtain ⟨v, ev, q⟩ := p.2.get e1
    exact ⟨us, v, SqL.of (s _ _ p.1).1, ev⟩
  yld := fun G H i d x H' p s e y => by
    obtain ⟨T, v', rfl, hT, rfl, h1⟩ := y
    obtain ⟨x, e1, rfl⟩ := enum_get e
    obtain ⟨v, ev, q⟩ := p.2.get e1
    have z1 := h1 us (SqL.of (s _ _ p.1).1)
    rw [ev] at z1
    cases z1
    exact pair_new s hT (.int _) q
  stop := fun G H p s => ⟨us, SqL.of (s _ _ p.1).1, by rw [p.2.length]; simp [enumD]⟩
def enE (f : Rho → R D) : Rho → R (List D) := fun ρ => (f ρ).bind fun d => match d with
  | .list xs => .ok (enumD xs)
  | _ => .bad
section
variable {X : Cx} {c : Cm} {W : WM}
theorem mi_enum {a : Expr} {f : Rho → R D} {p pos tpos : Pos} {elts : List Expr} {kk : Nat} (hg : Gl X "enumerate") (hm : X.mg "enumerate" = none) (ha : ME X c W a f) (hs1 : starEach [a] X.env = (false, eval a X.env) :: starEach [] X.env := by rfl) (hs : starEach [a] X.env = [(false, eval a X.env)] := by rfl) :
    MI X c W (.Tuple elts kk tpos) (.Call (.Name "enumerate" p) [a] [] pos) (enE f) := PI.imp (pi_enum hg hm (pa_cons ha pa_nil hs1) hs) fun σ H Rk ⟨G, ρ, ok, p⟩ => stepI ok p fun d G1 H1 v e1 g1 r1 ok1 p1 => by
  cases d with
  | list xs =>
    cases r1 with
    | lst h1 h2 => exact ⟨_, _, rfl, SqL.of (ok1.s _ _ h1).1, p1 G1 H1 _ _ (Gr.refl ok1.s) it_enumL ⟨h1, h2⟩⟩
  | _ => exact p1.elim
/-! ### x or y, by truth -/
def truD : D → Option Bool
  | .none => some false
  | .bool b => some b
  | .int i => some (i != 0)
  | .list xs => some (!xs.isEmpty)
  | .tuple xs => some (!xs.isEmpty)
  | _ => none
theorem tru_of {K : PySem.W.Frag} {ns : Sc} {G H : Hp} {v : V} {d : D} {k : Bool} (s : Sub G H) (b : B K ns G H v d) (e : truD d = some k) : TruV K v H k := by
  cases d with
  | none => obtain rfl := b.none; cases e; rfl
  | bool x => obtain rfl := b.bool; cases e; rfl
  | int i => obtain rfl := b.int; cases e; rfl
  | list xs =>
    obtain ⟨a, us, rfl, h1, q⟩ := b.list s
    cases e
    refine .inl ⟨us, SqL.of h1, ?_⟩
    cases q <;> rfl
  | tuple xs =>
    obtain ⟨a, us, rfl, h1, q, _⟩ := b.tuple s
    cases e
    refine .inr (.inl ⟨us, h1, ?_⟩)
    cases q <;> rfl
  | _ => cases e
def orE (f g : Rho → R D) : Rho → R D := fun ρ => (f ρ).bind fun x => (R.of (truD x)).bind fun b => if b then .ok x else g ρ
theorem me_orT {a b : Expr} {rest : List Expr} {pos : Pos} {f g : Rho → R D} (ha : ME X c W a f) (hb : ME X c W (.BoolOp .Or (b :: rest) pos) g) : ME X c W (.BoolOp .Or (a :: b :: rest) pos) (orE f g) :=
  PE.imp (pe_orT ha hb) fun σ H Qk ⟨G, ρ, ok, p⟩ => step ok p fun x G1 H1 v _ g1 r1 ok1 p1 => by
    cases e : truD x with
    | none => rw [e] at p1; exact p1.elim
    | some k =>
      rw [e] at p1
      refine ⟨k, tru_of ok1.s (.inl r1) e, ?_⟩
      cases k with
      | true => exact p1 G1 H1 v (Gr.refl ok1.s) r1
      | false => exact post_same ok1 p1
end
end M

/-! the library's walks (WalksT) as turns of a loop -/
namespace IW
open PySem PySem.Spec PyProof.Rows L2
/-- cells that are new may turn -/
theorem new_fp {X : Cx} {pins : List (Addr × Obj)} {σ : L2.St} {H : Hp} {s : Shared} {fp : List Addr} (I : Inv X pins σ H s) (h : ∀ b ∈ fp, s.heap.objs.size ≤ b) : ∀ b ∈ fp, FpOk X pins H b :=
  fun b hb => I.fpOk (h b hb) (I.hok.fresh (h b hb))
/-- who hands out a new tuple at each turn, and walks: J is what is told of it -/
theorem turn {P : Program} {w : World} {K : PySem.W.Frag} {elts : List Expr} {kk : Nat} {tpos : Pos} {J : It} {fp : List Addr} {it : Addr} {tn : Nat → Heap → Prop} (mem : it ∈ fp)
    (obj : ∀ i h, tn i h → ∀ b ∈ fp, ∃ o, h.get? b = some o ∧ ∀ v, o.data ≠ .cell v)
    (keep : ∀ i h h', tn i h → (∀ b ∈ fp, ∀ o, h.get? b = some o → h'.get? b = some o) → tn i h')
    (self : ∀ (A : Around) (i : Nat) (s : Shared) (Q : Value → Shared → Prop) (E : Value → Shared → Prop), tn i s.heap → Q (.ref it) s → wpAny (model P w) A (pyIter (.ref it)) Q E s)
    (walk : ∀ (X : Cx), X.prog = P → X.w = w → X.K = K → X.calm = true → ∀ (i : Nat) (pins : List (Addr × Obj)) (s : Shared) (σ : L2.St) (H : Hp), Inv X pins σ H s → tn i s.heap → (J.go i H ∨ J.stop i H) →
      ∃ (fw wr : List Addr) (n : Nat) (Pt : Nat → Array Value → Prop) (St : Nat → Heap → Prop) (Mid : Nat → Addr → Heap → Prop), WalksT P w X.A it fw wr n Pt St Mid ∧ (∀ b ∈ wr, b ∈ fp) ∧ St i s.heap ∧
        (∀ h, St (i + 1) h → tn (i + 1) h) ∧ (J.go i H → i < n) ∧ (J.stop i H → i = n) ∧
        (J.go i H → ∀ vals, Pt i vals → ∃ vs : List V, vs.length ≤ sizeLine ∧ Vals vs vals.toList ∧ ∀ T, H T = none → J.yld i H (.ref T) (upd H T (.tup vs)))) :
    Turn P w K (.Tuple elts kk tpos) J fp it tn := by
  refine ⟨mem, obj, keep, fun X hP hw hK hc i pins s σ H E I hf st go => ?_, fun X hP hw hK hc i pins s σ H E I hf st en => ?_, self⟩
  · obtain ⟨fw, wr, n, Pt, St, Mid, W, sub, at0, nxt, lt, _, say⟩ := walk X hP hw hK hc i pins s σ H I st (.inl go)
    refine W.item i s _ E (lt go) at0 fun T vals h1 tk hv hT tup mid far => ⟨.ref T, rfl, W.go elts kk tpos i T _ _ E mid fun h2 at2 far2 => ?_⟩
    obtain ⟨vs, len, rv, y⟩ := say go vals hv
    obtain ⟨oT, eT, cT⟩ := tup
    have known : ObjOk X.prog X.w (upd H T (.tup vs)) h2 T (.tup vs) := ⟨len, vals.toList, rv, oT, far2 T oT (W.apart i T h1 mid) eT, cT⟩
    have all : ∀ b o, b ∉ fp → s.heap.get? b = some o → h2.get? b = some o := fun b o out e => far2 b o (fun z => out (sub b z)) (far b o (fun z => out (sub b z)) e)
    refine ⟨.ref T, upd H T (.tup vs), I.turnedNew (t' := tk) all hf hT known, rfl, y T (I.hok.fresh hT), nxt h2 at2, fun b hb => ?_⟩
    obtain ⟨o, e, _⟩ := obj i s.heap st b hb
    have old : b ≠ T := Nat.ne_of_lt (Nat.lt_of_lt_of_le (Heap.lt_size e) hT)
    exact (upd_ne old).trans (hf b hb).1
  · obtain ⟨fw, wr, n, Pt, St, Mid, W, sub, at0, _, _, eq, _⟩ := walk X hP hw hK hc i pins s σ H I st (.inr en)
    exact W.done s _ E (eq en ▸ at0) fun h' tk far => ⟨rfl, I.turnedL (t' := tk) (fun b o out e => far b o (fun z => out (sub b z)) e) hf⟩
/-- an iterator as it draws from place m on, at its end or behind it, too -/
theorem draws_from {prog : Program} {w : World} {A : Around} {it : Addr} {fp : List Addr} {n m : Nat} {P : Nat → Value → Prop} {St : Nat → Heap → Prop} (D : Draws prog w A it fp n P St)
    (en : ∀ (j : Nat) (s : Shared) (Q : Value → Shared → Prop) (E : Value → Shared → Prop), n ≤ j → St j s.heap → (∀ h' e, Heap.ExtBut it s.heap h' → (∃ o, h'.get? e = some o ∧ o.cls = .type "StopIteration") → E (.ref e) { s with heap := h' }) → wpAny (model prog w) A (Builtin.SmallTypes.nextOf (.ref it)) Q E s) :
    Draws prog w A it fp (max n m) P (fun j h => St j h ∧ (m ≤ n ∨ j = m)) := by
  refine ⟨fun j h st => D.live j h st.1, fun j h h' st k => ⟨D.frame j h h' st.1 k, st.2⟩, fun j s Q E lt st hQ => ?_, fun s Q E st hE => en _ s Q E (Nat.le_max_left ..) st.1 hE⟩
  exact D.item j s Q E (by have := st.2; omega) st.1 fun x h' tk px st' => hQ x h' tk px ⟨st', by have := st.2; omega⟩
theorem draws_tup {prog : Program} {w : World} {A : Around} (hh : A.handled = none) {it l : Addr} (hne : l ≠ it) (items : Array Value) (m : Nat) :
    Draws prog w A it [it, l] (max items.size m) (fun j v => items[j]? = some v) (fun j h => (h.IsTupleIter it l j ∧ h.IsTuple l items) ∧ (m ≤ items.size ∨ j = m)) :=
  draws_from (Draws.tuple hh it l hne items) fun j s Q E le st hE => PySem.wpAny_nextOf_tuple_end hh st.1 st.2 (Array.getElem?_eq_none le) hE
/-- enumerate(v) begins: its two new cells -/
theorem enum_new {v : Value} {o : Obj} {B : Heap → Prop} (b : Begins v o B) :
    Meets (Builtin.«enumerate.__new__» ⟨[.type "enumerate", v], []⟩) (fun _ R s => B s.heap ∧ R (.ok (.ret (.ref (s.heap.objs.size + 1))))
      { s with heap := (s.heap.push o).push { cls := .type "enumerate", data := .fields #[.none, .bool false, .ref s.heap.objs.size, rawInt 0, .none, .none] } }) :=
  .of_wp fun prog w A R s h => by
    have hsub := sub_enumerate
    obtain ⟨hp, g, d, tk, os⟩ := s
    rcases h with ⟨hb, h⟩
    rw [← Heap.size_push hp o] at h
    have come : ∀ {A' : Around} {E : Value → Shared → Prop} {Q : Value → Shared → Prop}, Q (.ref hp.objs.size) ⟨hp.push o, g, d, tk, os⟩ → wpAny (model prog w) A' (pyIter v) Q E ⟨hp, g, d, tk, os⟩ := fun q => b.iter prog w _ _ _ _ hb q
    wp_walk using come
    refine wpAny_stack_any fun st => wpAny_pure ?_
    split
    case h_1 =>
      rename_i c _ _ _ _ _
      rcases (c == Value.type "enumerate") <;> (wp_walk using come; exact ⟨_, rfl, h⟩)
    all_goals (wp_walk using come; exact ⟨_, rfl, h⟩)
theorem enum_call {prog : Program} {w : World} {A : Around} {E : Value → Shared → Prop} {s : Shared} {v : Value} {o : Obj} {B : Heap → Prop} {Q : Value → Shared → Prop} (b : Begins v o B) (hb : B s.heap)
    (h : ∀ h', IsEnum h' (s.heap.objs.size + 1) s.heap.objs.size 0 .none → h'.get? s.heap.objs.size = some o → (∀ c u, s.heap.get? c = some u → h'.get? c = some u) → Q (.ref (s.heap.objs.size + 1)) { s with heap := h' }) :
    wpAny (model prog w) A (call (.type "enumerate") [v]) Q E s := by
  have one := Heap.size_push s.heap o
  have en : IsEnum ((s.heap.push o).push { cls := .type "enumerate", data := .fields #[.none, .bool false, .ref s.heap.objs.size, rawInt 0, .none, .none] }) (s.heap.objs.size + 1) s.heap.objs.size 0 .none := one ▸ Heap.get?_push_size _ rfl
  exact callType_new F.called_enumerate (by decide) (F.typeCall_enumerate_1 v) (F.newCall_enumerate_1 v) (fun x => F.args_object_init_2 x v) F.entry_enumerate_new (enum_new b)
    ⟨hb, ⟨_, en, rfl⟩, h _ en (Heap.get?_push_of_some _ (Heap.get?_push_size _ b.free)) fun c u e => Heap.get?_push_of_some _ (Heap.get?_push_of_some _ e)⟩
end IW
namespace Men
open PySem PySem.Spec PyProof.Rows L2
/-- the tuple at a, each item in a new pair -/
def IteT (K : PySem.W.Frag) (a : Addr) : It :=
  ⟨fun i H => ∃ (xs : List V) (x : V), SqT K H a xs ∧ xs[i]? = some x, fun i H v H' => ∃ T x, v = .ref T ∧ H T = none ∧ H' = upd H T (.tup [.int (i : Nat), x]) ∧ ∀ xs, SqT K H a xs → xs[i]? = some x, fun i H => ∃ xs : List V, SqT K H a xs ∧ xs.length ≤ i⟩
theorem turn_enumT {P : Program} {w : World} {K : PySem.W.Frag} {elts : List Expr} {kk : Nat} {tpos : Pos} (a e it : Addr) (hai : a ≠ it) (hae : a ≠ e) :
    Turn P w K (.Tuple elts kk tpos) (IteT K a) [e, it] e (fun i h => (∃ old, IsEnum h e it ((i : Nat) : Int) old) ∧ h.IsTupleIter it a i ∧ e ≠ it) := by
  refine IW.turn (by simp) (fun i h st b hb => ?_) (fun i h h' st k => ?_) (fun A i s Q E st h => let ⟨⟨_, he⟩, _⟩ := st; wpAny_pyIter_enum he h) fun X hP hw hK hc i pins s σ H I st d => ?_
  · obtain ⟨⟨old, he⟩, ⟨o, ho, _, hd⟩, _⟩ := st
    simp only [List.mem_cons, List.not_mem_nil, or_false] at hb
    obtain rfl | rfl := hb
    · exact ⟨_, he, by simp⟩
    · exact ⟨o, ho, by simp [hd]⟩
  · obtain ⟨⟨old, he⟩, hi, ne⟩ := st
    exact ⟨⟨old, k e (by simp) _ he⟩, hi.at (k it (by simp)), ne⟩
  · subst hP hw hK
    obtain ⟨⟨old, he⟩, hi, ne⟩ := st
    obtain ⟨xs, hq⟩ : ∃ xs, SqT X.K H a xs := d.elim (fun ⟨xs, _, q, _⟩ => ⟨xs, q⟩) fun ⟨xs, q, _⟩ => ⟨xs, q⟩
    obtain ⟨its, rv, p, _⟩ := I.tuple hq
    have len := rv.length
    have same : ∀ {ys}, SqT X.K H a ys → ys = xs := fun q => I.tuple_inj q hq
    have D := IW.draws_tup (prog := X.prog) (w := X.w) (A := X.A.in1) (I.ok.hd hc) hai its.toArray i
    refine ⟨_, _, _, _, _, _, WalksT.enumFrom 0 D e ne (by simp [ne, hae.symm]) (by simp), by simp, ⟨⟨old, by rw [Int.zero_add]; exact he⟩, ⟨hi, p⟩, by omega⟩, fun h z => ?_, fun ⟨ys, y, q, ey⟩ => ?_, fun ⟨ys, q, le⟩ => ?_, fun ⟨ys, y, q, ey⟩ vals hv => ?_⟩
    · obtain ⟨⟨o2, z1⟩, z2, _⟩ := z
      exact ⟨⟨o2, by rw [Int.zero_add] at z1; exact z1⟩, z2.1, ne⟩
    · rw [same q] at ey
      have := (List.getElem?_eq_some_iff.mp ey).1
      simp only [List.size_toArray]
      omega
    · rw [same q] at le
      simp only [List.size_toArray]
      omega
    · rw [same q] at ey
      obtain ⟨u, eu, ru⟩ := rv.get ey
      obtain ⟨t, x, ex, rfl⟩ := hv
      rw [List.getElem?_toArray, eu] at ex
      cases ex
      refine ⟨[.int (i : Nat), y], by show 2 ≤ sizeLine; decide, .cons ⟨t, by rw [Int.zero_add]⟩ (.cons ru .nil), fun T hT => ⟨T, y, rfl, hT, rfl, fun zs qz => ?_⟩⟩
      rw [same qz]
      exact ey
def iEnumA (K : PySem.W.Frag) (ta : TA) : TI := fun σ H R => ta σ H fun vs H1 => ∃ a xs, vs = [.ref a] ∧ ((SqL K H1 a xs ∧ R (Ite K a) H1) ∨ (SqT K H1 a xs ∧ R (IteT K a) H1))
theorem pi_enumA {X : Cx} {e : Expr} {ta : TA} {p pos tpos : Pos} {elts : List Expr} {kk : Nat} (hg : Gl X "enumerate") (hm : X.mg "enumerate" = none) (ha : PA X [e] ta) (hs : starEach [e] X.env = [(false, eval e X.env)] := by rfl) :
    PI X (.Tuple elts kk tpos) (.Call (.Name "enumerate" p) [e] [] pos) (iEnumA X.K ta) := by
  constructor
  intro pins s σ H R I h
  refine Call_ (ld_blt I hg hm boot_enumerate (PyProof.Rows.callWith_type1 (thn (ha.run pos pins s σ H _ I h) fun us s1 r => ?_) hs rfl))
  obtain ⟨_, H1, J, rel, a, xs, rfl, d⟩ := r
  have hus : us = [.ref a] := by cases rel with | cons r0 r1 => cases r0; cases r1; rfl
  subst hus
  have come : ∀ {h' : Heap} {It : It} {tn : Nat → Heap → Prop}, IsEnum h' (s1.heap.objs.size + 1) s1.heap.objs.size 0 .none → (∀ b u, s1.heap.get? b = some u → h'.get? b = some u) →
      Turn X.prog X.w X.K (.Tuple elts kk tpos) It [s1.heap.objs.size + 1, s1.heap.objs.size] (s1.heap.objs.size + 1) tn → tn 0 h' → R It H1 →
      wpAny (model X.prog X.w) X.A (pyIter (.ref (s1.heap.objs.size + 1))) (PIE X pins σ (.Tuple elts kk tpos) R) X.xe { s1 with heap := h' } := fun he hk t t0 q =>
    wpAny_pyIter_enum he ⟨_, _, _, _, H1, rfl, J.kept (t' := s1.toks) hk, t, t0, IW.new_fp J (by simp), q⟩
  have ne1 : s1.heap.objs.size + 1 ≠ s1.heap.objs.size := Nat.succ_ne_self _
  obtain ⟨hq, q⟩ | ⟨hq, q⟩ := d
  · obtain ⟨its, _, at1, _⟩ := J.list hq
    exact call_enumerate_list at1.isList fun h' he hi _ hk => come he hk (turn_enum a _ _) ⟨⟨_, he⟩, hi, ne1⟩ q
  · obtain ⟨its, _, at1, _⟩ := J.tuple hq
    have lt : a < s1.heap.objs.size := let ⟨_, z, _⟩ := at1; Heap.lt_size z
    exact IW.enum_call (begins_tuple a its.toArray) at1 fun h' he hi hk => come he hk (turn_enumT a _ _ (Nat.ne_of_lt lt) (Nat.ne_of_lt (Nat.lt_succ_of_lt lt))) ⟨⟨_, he⟩, ⟨_, hi, rfl, rfl⟩, ne1⟩ q
end Men
namespace M
open PySem PySem.Spec PyProof.Rows L2
theorem it_enumT {K : PySem.W.Frag} {ns : Sc} {a : Addr} {us : List V} {xs : List D} : ItOk K ns (Men.IteT K a) (fun G => SqT K G a us ∧ QA K ns G us xs) (enumD xs) where
  mono := fun G G' s p => ⟨SqT.same s p.1, QA.mono s _ _ p.2⟩
  go := fun G H i d p s e => by
    obtain ⟨x, e1, rfl⟩ := enum_get e
    obtain ⟨v, ev, q⟩ := p.2.get e1
    exact ⟨us, v, SqT.same s.same p.1, ev⟩
  yld := fun G H i d x H' p s e y => by
    obtain ⟨T, v', rfl, hT, rfl, h1⟩ := y
    obtain ⟨x, e1, rfl⟩ := enum_get e
    obtain ⟨v, ev, q⟩ := p.2.get e1
    have z1 := h1 us (SqT.same s.same p.1)
    rw [ev] at z1
    cases z1
    exact pair_new s hT (.int _) q
  stop := fun G H p s => ⟨us, SqT.same s.same p.1, by rw [p.2.length]; simp [enumD]⟩
def enA (f : Rho → R D) : Rho → R (List D) := fun ρ => (f ρ).bind fun d => match d with
  | .list xs => .ok (enumD xs)
  | .tuple xs => .ok (enumD xs)
  | _ => .bad
section
variable {X : Cx} {c : Cm} {W : WM}
theorem mi_enumA {a : Expr} {f : Rho → R D} {p pos tpos : Pos} {elts : List Expr} {kk : Nat} (hg : Gl X "enumerate") (hm : X.mg "enumerate" = none) (ha : ME X c W a f) (hs1 : starEach [a] X.env = (false, eval a X.env) :: starEach [] X.env := by rfl) (hs : starEach [a] X.env = [(false, eval a X.env)] := by rfl) :
    MI X c W (.Tuple elts kk tpos) (.Call (.Name "enumerate" p) [a] [] pos) (enA f) := PI.imp (Men.pi_enumA hg hm (pa_cons ha pa_nil hs1) hs) fun σ H Rk ⟨G, ρ, ok, p⟩ => stepI ok p fun d G1 H1 v e1 g1 r1 ok1 p1 => by
  cases d with
  | list xs =>
    cases r1 with
    | lst h1 h2 => exact ⟨_, _, rfl, .inl ⟨SqL.of (ok1.s _ _ h1).1, p1 G1 H1 _ _ (Gr.refl ok1.s) it_enumL ⟨h1, h2⟩⟩⟩
  | tuple xs =>
    cases r1 with
    | tup h1 h2 => exact ⟨_, _, rfl, .inr ⟨SqT.same ok1.s.same h1, p1 G1 H1 _ _ (Gr.refl ok1.s) it_enumT ⟨h1, h2⟩⟩⟩
  | _ => exact p1.elim
end
end M

namespace Men
open PySem PySem.Spec PyProof.Rows L2 HT
section
variable {prog : Program} {w : World} {A : Around} {E : Value → Shared → Prop} {s : Shared}
theorem sliceApplied_rev {sl : Addr} {vl vu vs : Value} {n : Nat} {Q : Int × Int × Nat → Shared → Prop} (hs : s.heap.IsSliceOf sl vl vu vs) (pl : IsPart vl none) (pu : IsPart vu none) (ps : IsPart vs (some (-1)))
    (h : Q ((n : Int) - 1, -1, n) s) : wpAny (model prog w) A (Builtin.Slice.sliceApplied (.ref sl) (pure (n : Int))) Q E s := by
  obtain ⟨os, hos, hcs, hds⟩ := id hs
  unfold Builtin.Slice.sliceApplied Builtin.Slice.sliceFields
  refine wpAny_bind (wpAny_bind (wpAny_field hos hds (x := vl) rfl (wpAny_bind (wpAny_field hos hds (x := vu) rfl (wpAny_bind (wpAny_field hos hds (x := vs) rfl (wpAny_pure ?_)))))))
  refine wpAny_bind (slicePart_ ps ?_)
  show wpAny _ _ (if ((-1 : Int) == 0) = true then _ else _) _ _ s
  rw [if_neg (by decide)]
  refine wpAny_bind (slicePart_ pl (wpAny_bind (slicePart_ pu (wpAny_bind (wpAny_pure ?_)))))
  show wpAny _ _ (match Builtin.Slice.sliceAdjust none none (-1) (n : Int) with | (lo, hi) => pure (lo, (-1 : Int), Builtin.Slice.slicePlaces lo hi (-1))) _ _ s
  have e : Builtin.Slice.sliceAdjust none none (-1) (n : Int) = ((n : Int) - 1, -1) := rfl
  rw [e]
  have e2 : Builtin.Slice.slicePlaces ((n : Int) - 1) (-1) (-1) = n := by
    unfold Builtin.Slice.slicePlaces
    rw [if_neg (by decide)]
    by_cases c : (n : Int) - 1 > -1
    · rw [if_pos c, show (- -1 : Int) = 1 by decide, Int.ediv_one]
      omega
    · rw [if_neg c]
      omega
  show wpAny _ _ (pure ((n : Int) - 1, (-1 : Int), Builtin.Slice.slicePlaces ((n : Int) - 1) (-1) (-1))) _ _ s
  rw [e2]
  exact wpAny_pure h
theorem fm_congr {α β : Type} {f g : α → Option β} : ∀ l : List α, (∀ x ∈ l, f x = g x) → l.filterMap f = l.filterMap g
  | [], _ => rfl
  | x :: l, h => by
    rw [List.filterMap_cons, List.filterMap_cons, h x (by simp), fm_congr l fun y hy => h y (by simp [hy])]
theorem pick_rev (xs : Array Value) : ((List.range xs.size).filterMap fun (m : Nat) => xs[((xs.size : Int) - 1 + (m : Int) * -1).toNat]?).toArray = xs.toList.reverse.toArray := by
  have h := PySem.W.krv_pick xs
  unfold slicePick at h
  rw [PySem.W.krv_bounds] at h
  rw [← h]
  show _ = ((sliceRange ((xs.size : Int) - 1) (-1) (-1)).filterMap (xs[·]?)).toArray
  rw [PySem.W.krv_sliceRange, List.filterMap_map]
  congr 1
  refine fm_congr _ fun m hm => ?_
  have := List.mem_range.mp hm
  rw [show ((xs.size : Int) - 1 + (m : Int) * -1).toNat = xs.size - 1 - m by omega]
  rfl
/-- a slice of a tuple that goes backwards: a new tuple of what it picks -/
theorem tup_back {t sl : Addr} {items ys : Array Value} {vl vu vs : Value} {lo : Int} {n : Nat} {Q : Value → Shared → Prop} (ht : IsTup s.heap t items) (hs : s.heap.IsSliceOf sl vl vu vs)
    (app : ∀ {A : Around} {E : Value → Shared → Prop} {R : Int × Int × Nat → Shared → Prop}, R (lo, -1, n) s → wpAny (model prog w) A (Builtin.Slice.sliceApplied (.ref sl) (pure (items.size : Int))) R E s)
    (pick : ((List.range n).filterMap fun (m : Nat) => items[(lo + (m : Int) * -1).toNat]?).toArray = ys) (fit : ys.size ≤ sizeLine)
    (h : Q (.ref s.heap.objs.size) { s with heap := s.heap.push { cls := .type "tuple", data := .seq ys } }) : wpAny (model prog w) A (getItem (.ref t) (.ref sl)) Q E s := by
  subst pick
  have isSl : s.TypeIs (.ref sl) "slice" := let ⟨o, e, c, _⟩ := hs; ⟨o, e, c⟩
  have made : ∀ {A : Around}, wpAny (model prog w) A (Builtin.Tuple.tupleExact ((List.range n).filterMap fun (m : Nat) => items[(lo + (m : Int) * -1).toNat]?).toArray >>= fun v => ret v) (fun fin s' => ∃ v, fin = .done (.ret v) ∧ Q v s') E s :=
    wpAny_bind (wpAny_newObj_type (wpAny_pure ⟨_, rfl, h⟩) fit)
  refine wpAny_getItem_slot ht.typeIs (by decide) PyProof.Rows.slot_tuple_getitem (wpAny_call_entry PyProof.Rows.slot_tuple_getitem ht.typeIs entry_tuple_getitem ?_ (args_tuple_getitem _ _))
  refine wpAny_bind (m := Builtin.Tuple.tupleItemsOf (.ref t)) (tupleItemsOf_ ht (wpAny_bind (wpAny_typeOf isSl ?_)))
  rw [if_pos (by decide)]
  refine wpAny_bind (app ?_)
  have ne : (lo == 0 && (-1 : Int) == 1 && n == items.size) = false := by simp
  refine PySem.W.KFB.if_not ne ?_
  exact made
theorem getItem_tuple_rev {t sl : Addr} {items : Array Value} {vl vu vs : Value} {Q : Value → Shared → Prop} (ht : IsTup s.heap t items) (hs : s.heap.IsSliceOf sl vl vu vs) (pl : IsPart vl none) (pu : IsPart vu none) (ps : IsPart vs (some (-1)))
    (h : Q (.ref s.heap.objs.size) { s with heap := s.heap.push { cls := .type "tuple", data := .seq items.toList.reverse.toArray } })
    (hsz : items.size ≤ sizeLine) : wpAny (model prog w) A (getItem (.ref t) (.ref sl)) Q E s :=
  tup_back ht hs (fun q => sliceApplied_rev hs pl pu ps q) (pick_rev items) (by simpa using hsz) h
end
/-- a part of a slice whose worth is known ahead -/
def Kn (X : Cx) (e : Option Expr) (o : Option Int) : Prop := ∃ t : TO, PO X e t ∧ ∀ σ H (Q : Option Int → Hp → Prop), Q o H → t σ H Q
theorem kn_no {X : Cx} : Kn X none none := ⟨_, po_none, fun _ _ _ q => q⟩
theorem kn_int {X : Cx} {i : Int} {k : Nat} {p : Pos} : Kn X (some (.Constant (.int i) k p)) (some i) := ⟨_, po_some pe_int, fun _ _ _ q => ⟨i, rfl, q⟩⟩
theorem kn_neg {X : Cx} {i : Int} {k : Nat} {p1 p2 : Pos} : Kn X (some (.UnaryOp .USub (.Constant (.int i) k p1) p2)) (some (-i)) := ⟨_, po_some (pe_un un_neg pe_int), fun _ _ _ q => ⟨i, rfl, -i, rfl, q⟩⟩
/-- e[lo:hi:st], its parts known: what is left is the item itself -/
theorem pe_cut {X : Cx} {e : Expr} {lo hi st : Option Expr} {te : TE} {a b c : Option Int} {p3 pos : Pos} {W : V → Hp → VK → Prop} (he : PE X e te) (k1 : Kn X lo a) (k2 : Kn X hi b) (k3 : Kn X st c)
    (fin : ∀ (pins : List (Addr × Obj)) (s : Shared) (σ : L2.St) (H : Hp) (Q : VK) (x : V) (v : Value) (sl : Addr) (vl vu vs : Value), Inv X pins σ H s → RelV x v → s.heap.IsSliceOf sl vl vu vs → IsPart vl a → IsPart vu b → IsPart vs c → W x H Q →
      wpAny (model X.prog X.w) X.A (subscriptTail e (.Slice lo hi st p3) v (.ref sl)) (EP X pins σ Q) X.xe s) :
    PE X (.Subscript e (.Slice lo hi st p3) pos) (fun σ H Q => te σ H fun x H1 => W x H1 Q) := by
  obtain ⟨t1, r1, g1⟩ := k1
  obtain ⟨t2, r2, g2⟩ := k2
  obtain ⟨t3, r3, g3⟩ := k3
  constructor
  intro pins s σ H Q I h
  refine Subscript_ (thn (he.run pins s σ H _ I h) fun v s1 ⟨x, H1, I1, rel, wx⟩ => wpAny_Slice ?_)
  refine thn (r1.run pins s1 σ H1 (fun o G => o = a ∧ G = H1) I1 (g1 _ _ _ ⟨rfl, rfl⟩)) fun vl s2 ⟨_, _, I2, part1, ea, eh⟩ => ?_
  subst ea eh
  refine thn (r2.run pins s2 σ _ (fun o G => o = b ∧ G = _) I2 (g2 _ _ _ ⟨rfl, rfl⟩)) fun vu s3 ⟨_, _, I3, part2, ea, eh⟩ => ?_
  subst ea eh
  refine thn (r3.run pins s3 σ _ (fun o G => o = c ∧ G = _) I3 (g3 _ _ _ ⟨rfl, rfl⟩)) fun vs s4 ⟨_, _, I4, part3, ea, eh⟩ => ?_
  subst ea eh
  exact fin pins _ σ _ Q x v _ vl vu vs (I4.kept (t' := s4.toks) fun _ _ z => Heap.get?_push_of_some _ z) rel (Heap.IsSliceOf.new _ vl vu vs) part1 part2 part3 wx
section
variable {X : Cx} {pins : List (Addr × Obj)} {σ : L2.St} {H : Hp} {s : Shared}
/-- the item's object is laid -/
theorem cut_laid {Q : VK} {o : HO} {u : Obj} (I : Inv X pins σ H s) (new : ObjOk X.prog X.w (upd H s.heap.objs.size o) (s.heap.push u) s.heap.objs.size o) (q : ∀ p, H p = none → Q (.ref p) (upd H p o)) : EP X pins σ Q (.ref s.heap.objs.size) { s with heap := s.heap.push u } :=
  ⟨.ref _, _, I.laid (t' := s.toks) (fun _ _ z => Heap.get?_push_of_some _ z) (Nat.le_refl _) new, rfl, q _ (I.hok.fresh (Nat.le_refl _))⟩
def tRevA (K : PySem.W.Frag) (te : TE) : TE := fun σ H Q => te σ H fun x H1 => ∃ a xs, x = .ref a ∧ ((SqL K H1 a xs ∧ ∀ p, H1 p = none → Q (.ref p) (upd H1 p (.lst xs.reverse))) ∨ (SqT K H1 a xs ∧ ∀ p, H1 p = none → Q (.ref p) (upd H1 p (.tup xs.reverse))))
theorem pe_revA {e : Expr} {te : TE} {k : Nat} {p1 p2 p3 pos : Pos} (he : PE X e te) : PE X (.Subscript e (.Slice none none (some (.UnaryOp .USub (.Constant (.int 1) k p1) p2)) p3) pos) (tRevA X.K te) := by
  refine pe_cut (te := te) he kn_no kn_no kn_neg fun pins s σ H Q x v sl vl vu vs I rel hs part1 part2 part3 ⟨a, xs, ex, d⟩ => ?_
  subst ex
  cases rel
  obtain ⟨hx, q⟩ | ⟨hx, q⟩ := d
  · obtain ⟨its, rv, p, fit⟩ := I.list hx
    have len := rv.length
    refine tail_any (ops := [.ref a, .ref sl]) p.isList.typeIs (PySem.slot_list_getitem.lookup) (wpAny_getItem_list_slice p.isList hs part1 part2 part3 (by decide) ?_ (by rw [List.size_toArray]; omega)) (by with_unfolding_all rfl)
    refine cut_laid I (o := .lst xs.reverse) ⟨by simpa using fit, its.reverse, 0, rv.reverse, ?_⟩ q
    rw [PySem.W.krv_pick]
    exact Heap.get?_push_size _ rfl
  · obtain ⟨its, rv, p, fit⟩ := I.tuple hx
    have len := rv.length
    exact tail_any (ops := [.ref a, .ref sl]) p.typeIs (PyProof.Rows.slot_tuple_getitem.lookup) (getItem_tuple_rev p hs part1 part2 part3 (cut_laid I (o := .tup xs.reverse) ⟨by simpa using fit, _, rv.reverse, IsTup.new _ _⟩ q) (by rw [List.size_toArray]; omega)) (by with_unfolding_all rfl)
end
end Men
namespace M
open PySem PySem.Spec PyProof.Rows L2
def revA : D → Option D
  | .list xs => some (.list xs.reverse)
  | .tuple xs => some (.tuple xs.reverse)
  | _ => none
section
variable {X : Cx} {c : Cm} {W : WM}
theorem me_revA {e : Expr} {f : Rho → R D} {k : Nat} {p1 p2 p3 pos : Pos} (he : MB X c W e f) : ME X c W (.Subscript e (.Slice none none (some (.UnaryOp .USub (.Constant (.int 1) k p1) p2)) p3) pos) (e1 revA f) :=
  PE.imp (Men.pe_revA he) fun σ H Qk ⟨G, ρ, ok, p⟩ => step ok p fun x G1 H1 v _ g1 r1 ok1 p1 => by
    cases x with
    | list xs =>
      obtain ⟨a, us, rfl, h1, q1⟩ := r1.list ok1.s
      exact ⟨a, us, rfl, .inl ⟨SqL.of h1, newL ok1.s q1.rev rfl p1⟩⟩
    | tuple xs =>
      obtain ⟨a, us, rfl, h1, q1, h2⟩ := r1.tuple ok1.s
      exact ⟨a, us, rfl, .inr ⟨h1, newT ok1.s q1.rev rfl p1⟩⟩
    | _ => exact p1.elim
end
end M

namespace SrtO
open PySem PyProof.Rows Srt
section
variable {prog : Program} {w : World} {A : Around} {E : Value → Shared → Prop} {s : Shared}
theorem swo_code (B : Int) (k : Value → List Int) : Swo fun v u => decide (TS.code B (k v) < TS.code B (k u)) := by
  refine ⟨fun x y h => ?_, fun x y z h1 h2 => ?_⟩
  · have a := of_decide_eq_true h
    exact decide_eq_false (by omega)
  · have a := of_decide_eq_false h1
    have b := of_decide_eq_false h2
    exact decide_eq_false (by omega)
theorem tups_sortableO {a : Addr} {vs : List Value} {k : Value → List Int} {d : Nat} {B : Int} (hd1 : 1 ≤ d) (h0 : 0 < vs.length) (hp : ∀ v ∈ vs, TS.TupInts s.heap v (k v) ∧ (k v).length = d ∧ TS.Bd B (k v)) (ha : ∀ o, s.heap.get? a = some o → o.cls ≠ .type "tuple") :
    SortableO prog w A s a vs fun v u => decide (TS.code B (k v) < TS.code B (k u)) := by
  intro h' keep
  have hp' : ∀ v ∈ vs, TS.TupInts h' v (k v) ∧ (k v).length = d ∧ TS.Bd B (k v) := fun v hm => ⟨(hp v hm).1.keeps fun b o e c => keep b o (fun z => by subst z; exact ha o e c) e, (hp v hm).2⟩
  obtain ⟨fs, h1, h2, h3⟩ := TS.firsts_of (h := h') (d := d) (B := B) hd1 vs fun v hv => ⟨k v, hp' v hv⟩
  have kind : (Value.type "int" != Value.type "tuple") = true := by decide
  refine ⟨tuples' true, fun Q E hq => PySem.W.kat_kind (T := .type "int") h1 (by omega) (fun f hm => ?_) (by rfl) (kind.symm ▸ hq), ?_⟩
  · obtain ⟨x, t, ef⟩ := h3 f hm
    rw [ef]
    exact PySem.W.Looks.now
  · intro p q hm hm'
    obtain ⟨⟨a1, xs, e1, ⟨o, ho, hc, n, hdt⟩, i⟩, l1, b1⟩ := hp' _ hm
    obtain ⟨⟨a2, ys, e2, ⟨o', ho', hc', n', hdt'⟩, i'⟩, l2, b2⟩ := hp' _ hm'
    show wpAny (model prog w) A (keyLt' (tuples' true) p.1 q.1) (fun r s' => s' = { s with heap := h' } ∧ r = decide (TS.code B (k p.1) < TS.code B (k q.1))) (fun _ _ => False) { s with heap := h' }
    generalize k p.1 = ns at *
    generalize k q.1 = ms at *
    rw [e1, e2]
    refine PySem.W.kat_lt ho hdt ho' hdt' ?_
    have sz : decide (xs.size < ys.size) = false := by
      have z1 := i.length
      have z2 := i'.length
      rw [Array.length_toList] at z1 z2
      exact decide_eq_false (by omega)
    rw [sz]
    exact TS.lex_ints 0 i i' (by omega) b1 b2 ⟨rfl, rfl⟩
end
end SrtO
namespace L2
open PySem PySem.Spec PyProof.Rows
/-- sorted(xs), xs a list of tuples of d ints each in [0, B); ns: their ints -/
def rSortedT (K : PySem.W.Frag) : List V → Hp → VK → Prop := fun vs H Q => ∃ (a : Addr) (xs : List V) (ns : List (List Int)) (d : Nat) (B : Int), vs = [V.ref a] ∧ SqL K H a xs ∧ 1 ≤ d ∧ xs.length = ns.length ∧ (∀ z ∈ xs.zip ns, (∃ t, z.1 = V.ref t ∧ SqT K H t (z.2.map V.int)) ∧ z.2.length = d ∧ TS.Bd B z.2) ∧
  ∀ (zs : List (V × List Int)) (p : Addr), zs.Perm (xs.zip ns) → (zs.map fun z => TS.code B z.2).Pairwise (· ≤ ·) → H p = none → Q (.ref p) (upd H p (.lst (zs.map (·.1))))
theorem zip_fn {α β : Type} (k : α → β) : ∀ (xs : List α) (ns : List β), xs.length = ns.length → (∀ z ∈ xs.zip ns, k z.1 = z.2) → xs.zip ns = xs.map fun x => (x, k x)
  | [], [], _, _ => rfl
  | [], _ :: _, h, _ => by simp at h
  | _ :: _, [], h, _ => by simp at h
  | x :: xs, n :: ns, h, hk => by
    rw [List.zip_cons_cons, List.map_cons, zip_fn k xs ns (by simpa using h) fun z hz => hk z (by simp [hz]), show n = k x from (hk (x, n) (by simp)).symm]
theorem zip_mem {α β : Type} : ∀ (xs : List α) (ns : List β), xs.length = ns.length → ∀ x ∈ xs, ∃ n, (x, n) ∈ xs.zip ns
  | [], _, _, x, h => by simp at h
  | _ :: _, [], h, _, _ => by simp at h
  | y :: xs, n :: ns, h, x, hx => by
    rcases List.mem_cons.mp hx with rfl | hx
    · exact ⟨n, by simp⟩
    · obtain ⟨m, hm⟩ := zip_mem xs ns (by simpa using h) x hx
      exact ⟨m, by simp [hm]⟩
theorem int_inj : ∀ {a b : List Int}, a.map V.int = b.map V.int → a = b
  | [], [], _ => rfl
  | [], _ :: _, h => by simp at h
  | _ :: _, [], h => by simp at h
  | x :: a, y :: b, h => by
    simp only [List.map_cons, List.cons.injEq, V.int.injEq] at h
    rw [h.1, int_inj h.2]
section
variable {X : Cx}
open Classical in
theorem cr_sortedT : CallR X (.builtin "sorted") (rSortedT X.K) := by
  intro pins s σ H vs us Q I r h
  obtain ⟨a, xs, ns, d, B, rfl, hs, hd1, hln, hx, q⟩ := h
  obtain ⟨its, rv, hl, hz⟩ := I.list hs
  obtain ⟨u, rfl, ru⟩ := vals1 r
  obtain rfl : u = Value.ref a := ru
  let k : V → List Int := fun x => if h : ∃ n : List Int, ∃ t, x = V.ref t ∧ SqT X.K H t (n.map V.int) then choose h else []
  have hk : ∀ z ∈ xs.zip ns, k z.1 = z.2 := fun z hzm => by
    obtain ⟨⟨t, e, ht⟩, _⟩ := hx z hzm
    have hex : ∃ n : List Int, ∃ t, z.1 = V.ref t ∧ SqT X.K H t (n.map V.int) := ⟨z.2, t, e, ht⟩
    have hc := choose_spec hex
    show (if h : ∃ n : List Int, ∃ t, z.1 = V.ref t ∧ SqT X.K H t (n.map V.int) then choose h else []) = z.2
    rw [dif_pos hex]
    obtain ⟨t', e', ht'⟩ := hc
    rw [e] at e'
    cases e'
    exact int_inj (I.tuple_inj ht' ht)
  have hx' : ∀ x ∈ xs, (∃ t, x = V.ref t ∧ SqT X.K H t ((k x).map V.int)) ∧ (k x).length = d ∧ TS.Bd B (k x) := fun x hxm => by
    obtain ⟨n, hn⟩ := zip_mem xs ns hln x hxm
    have := hx _ hn
    rw [← hk _ hn] at this
    exact this
  obtain ⟨e1, e2⟩ := refs_back rv fun x m => by
    obtain ⟨⟨t, e, _⟩, _⟩ := hx' x m
    exact ⟨t, e⟩
  have hp : ∀ v ∈ its, TS.TupInts s.heap v (k (backV v)) ∧ (k (backV v)).length = d ∧ TS.Bd B (k (backV v)) := fun v hv => by
    obtain ⟨t, rfl⟩ := e2 v hv
    have hm : V.ref t ∈ xs := by rw [e1]; exact List.mem_map.mpr ⟨_, hv, rfl⟩
    obtain ⟨⟨t', e, ht⟩, h2⟩ := hx' _ hm
    cases e
    obtain ⟨its2, r2, ht2, _⟩ := I.tuple ht
    exact ⟨⟨t, its2.toArray, rfl, ht2, by show IntsAre its2.toArray.toList (k (V.ref t)); simpa using ints_vals r2⟩, h2⟩
  refine SrtO.sorted_ord (SrtO.swo_code B fun v => k (backV v)) hl.isList (by rw [← rv.length]; exact hz) (fun h2 h₁ a' ha kk => ?_) fun out h1 h2 => ?_
  · refine SrtO.tups_sortableO (s := { s with heap := h₁ }) hd1 (by omega) (fun v hm => ⟨(hp v hm).1.keeps fun b o e _ => (kk b o e).2, (hp v hm).2⟩) fun o e => ?_
    have e' : some o = some (seqObj "list" its.toArray 0) := e.symm.trans ha
    cases e'
    intro c
    exact absurd (Value.type.inj c) (by decide)
  · have h3 : ∀ u ∈ out, ∃ a, u = Value.ref a := fun u hu => e2 u (h2.perm.mem_iff.mp hu)
    obtain ⟨n, hn⟩ := sortedAll_at s.heap its out.toArray
    have hq := q ((out.map backV).map fun x => (x, k x)) (s.heap.objs.size + 1) (by
      rw [zip_fn k xs ns hln hk]
      refine List.Perm.map _ ?_
      rw [e1]
      exact h2.perm.map backV) (by
      rw [List.map_map, List.map_map, List.pairwise_map]
      exact (show List.Pairwise _ out from h1).imp fun {x y} z => by
        have := of_decide_eq_false z
        simp only [Function.comp]
        omega) (I.hok.fresh (Nat.le_succ _))
    rw [List.map_map, show ((fun x : V × List Int => x.1) ∘ fun x => (x, k x)) = id from rfl, List.map_id] at hq
    refine ⟨.ref _, upd H _ (.lst (out.map backV)), I.laid (t' := s.toks) (fun b o e => sortedAll_old e) (Nat.le_succ _) ⟨?_, out, n, vals_back h3, hn⟩, rfl, hq⟩
    rw [List.length_map, h2.perm.length_eq, ← rv.length]; exact hz
end
end L2
namespace M
open PySem PySem.Spec PyProof.Rows L2
/-! ### sorted, of tuples of ints -/
/-- the ints of a row of tuples -/
def rowsOf : List D → Option (List (List Int))
  | [] => some []
  | .tuple xs :: r => match intsOf xs, rowsOf r with
    | some is, some rs => some (is :: rs)
    | _, _ => none
  | _ :: _ => none
def tupD (is : List Int) : D := .tuple (is.map .int)
theorem rows_eq : ∀ {ds : List D} {rs : List (List Int)}, rowsOf ds = some rs → ds = rs.map tupD
  | [], _, h => by cases h; rfl
  | d :: ds, rs, h => by
    cases d with
    | tuple xs =>
      unfold rowsOf at h
      cases e1 : intsOf xs with
      | none => rw [e1] at h; cases h
      | some is =>
        cases e2 : rowsOf ds with
        | none => rw [e1, e2] at h; cases h
        | some rs' =>
          rw [e1, e2] at h
          cases h
          rw [List.map_cons, ← rows_eq e2, tupD, ← ints_eq e1]
    | _ => cases h
def insT (B : Int) (x : List Int) : List (List Int) → List (List Int)
  | [] => [x]
  | y :: r => if TS.code B x ≤ TS.code B y then x :: y :: r else y :: insT B x r
def sortT (B : Int) : List (List Int) → List (List Int)
  | [] => []
  | x :: r => insT B x (sortT B r)
theorem insT_perm (B : Int) (x : List Int) : ∀ l, (insT B x l).Perm (x :: l)
  | [] => .refl _
  | y :: r => by
    unfold insT
    split
    · exact .refl _
    · exact ((insT_perm B x r).cons y).trans (.swap x y r)
theorem sortT_perm (B : Int) : ∀ l, (sortT B l).Perm l
  | [] => .refl _
  | x :: r => (insT_perm B x (sortT B r)).trans ((sortT_perm B r).cons x)
theorem insT_sorted (B : Int) (x : List Int) : ∀ {l : List (List Int)}, l.Pairwise (fun a b => TS.code B a ≤ TS.code B b) → (insT B x l).Pairwise (fun a b => TS.code B a ≤ TS.code B b)
  | [], _ => by simp [insT]
  | y :: r, h => by
    unfold insT
    have h' := List.pairwise_cons.mp h
    split
    · rename_i hx
      exact List.pairwise_cons.mpr ⟨fun z hz => by
        rcases List.mem_cons.mp hz with rfl | hz
        · exact hx
        · exact Int.le_trans hx (h'.1 z hz), h⟩
    · rename_i hx
      refine List.pairwise_cons.mpr ⟨fun z hz => ?_, insT_sorted B x h'.2⟩
      rcases List.mem_cons.mp ((insT_perm B x r).mem_iff.mp hz) with rfl | hz
      · omega
      · exact h'.1 z hz
theorem sortT_sorted (B : Int) : ∀ l, (sortT B l).Pairwise (fun a b => TS.code B a ≤ TS.code B b)
  | [] => .nil
  | x :: r => insT_sorted B x (sortT_sorted B r)
theorem code_inj {B : Int} : ∀ {a b : List Int}, a.length = b.length → TS.Bd B a → TS.Bd B b → TS.code B a = TS.code B b → a = b
  | [], [], _, _, _, _ => rfl
  | [], _ :: _, h, _, _, _ => by simp at h
  | _ :: _, [], h, _, _, _ => by simp at h
  | x :: a, y :: b, h, h1, h2, e => by
    have hl : a.length = b.length := by simpa using h
    rcases Int.lt_trichotomy x y with z | z | z
    · have := TS.code_lt hl h1.tail h2.tail z
      omega
    · subst z
      have n1 : ¬ TS.code B a < TS.code B b := fun q => by
        have := (TS.code_same (d := x) hl).mpr q
        omega
      have n2 : ¬ TS.code B b < TS.code B a := fun q => by
        have := (TS.code_same (d := x) hl.symm).mpr q
        omega
      rw [code_inj hl h1.tail h2.tail (by omega)]
    · have := TS.code_lt hl.symm h2.tail h1.tail z
      omega
/-- all as long as the first, all in [0, 64) -/
def rowsOk (rs : List (List Int)) : Bool := match rs with
  | [] => false
  | r :: _ => decide (1 ≤ r.length) && rs.all fun x => decide (x.length = r.length) && x.all fun i => decide (0 ≤ i) && decide (i < 64)
def sortTD : List D → Option D
  | [.list xs] => match rowsOf xs with
    | some rs => if rowsOk rs = true then some (.list ((sortT 64 rs).map tupD)) else none
    | none => none
  | _ => none
theorem QA.zip {K : PySem.W.Frag} {ns : Sc} {G : Hp} : ∀ {us : List V} {rs : List (List Int)}, QA K ns G us (rs.map tupD) → us.length = rs.length ∧ ∀ z ∈ us.zip rs, Q K ns G z.1 (tupD z.2)
  | us, [], q => by cases q; exact ⟨rfl, fun z hz => by simp at hz⟩
  | us, r :: rs, q => by
    cases q with
    | cons q1 q2 =>
      obtain ⟨h1, h2⟩ := QA.zip q2
      exact ⟨by simp [h1], fun z hz => by
        rw [List.zip_cons_cons] at hz
        rcases List.mem_cons.mp hz with rfl | hz
        · exact q1
        · exact h2 z hz⟩
theorem QA.unzip {K : PySem.W.Frag} {ns : Sc} {G : Hp} : ∀ {zs : List (V × List Int)}, (∀ z ∈ zs, Q K ns G z.1 (tupD z.2)) → QA K ns G (zs.map (·.1)) ((zs.map (·.2)).map tupD)
  | [], _ => .nil
  | z :: zs, h => .cons (h z (by simp)) (QA.unzip fun y hy => h y (by simp [hy]))
theorem zip_snd {α β : Type} : ∀ (xs : List α) (ns : List β), xs.length = ns.length → (xs.zip ns).map (·.2) = ns
  | [], [], _ => rfl
  | [], _ :: _, h => by simp at h
  | _ :: _, [], h => by simp at h
  | x :: xs, n :: ns, h => by rw [List.zip_cons_cons, List.map_cons, zip_snd xs ns (by simpa using h)]
section
variable {X : Cx} {c : Cm} {W : WM}
theorem cad_sortedT : CaD X c.ns (rSortedT X.K) sortTD := fun G H vs ds d Qk e s b k => by
  unfold sortTD at e
  split at e
  · rename_i xs
    cases er : rowsOf xs with
    | none => rw [er] at e; cases e
    | some rs =>
      rw [er] at e
      simp only at e
      by_cases hok : rowsOk rs = true
      · rw [if_pos hok] at e
        cases e
        obtain ⟨v, ws, rfl, b1, b2⟩ := b.cons_inv
        obtain rfl := b2.nil_inv
        obtain ⟨a, us, rfl, h1, q1⟩ := b1.list s
        have hrs := rows_eq er
        subst hrs
        obtain ⟨hln, hzq⟩ := q1.zip
        cases rs with
        | nil => cases hok
        | cons r0 rs =>
          have hok' := hok
          unfold rowsOk at hok'
          simp only at hok'
          rw [Bool.and_eq_true] at hok'
          have hd1 : 1 ≤ r0.length := of_decide_eq_true hok'.1
          have hall : ∀ r ∈ r0 :: rs, r.length = r0.length ∧ TS.Bd 64 r := fun r hr => by
            have := List.all_eq_true.mp hok'.2 r hr
            rw [Bool.and_eq_true] at this
            exact ⟨of_decide_eq_true this.1, fun m hm => by
              have := List.all_eq_true.mp this.2 m hm
              simpa using this⟩
          refine ⟨a, us, r0 :: rs, r0.length, 64, rfl, SqL.of h1, hd1, hln, fun z hz => ⟨?_, hall _ (List.of_mem_zip (a := z.1) (b := z.2) hz).2⟩, fun zs p hp hs hpn => ?_⟩
          · have hq := hzq z hz
            generalize z.1 = x at hq
            generalize z.2 = r at hq
            unfold tupD at hq
            cases hq with
            | tup g1 g2 =>
              obtain rfl := g2.ints_inv
              exact ⟨_, rfl, SqT.same s.same g1⟩
          · have hsn : (zs.map (·.2)).Perm (r0 :: rs) := by
              have := hp.map (·.2)
              rwa [zip_snd _ _ hln] at this
            have hes : zs.map (·.2) = sortT 64 (r0 :: rs) := by
              refine List.Perm.eq_of_pairwise (le := fun a b => TS.code 64 a ≤ TS.code 64 b) (fun a b ha hb h h' => ?_) ?_ (sortT_sorted 64 _) (hsn.trans (sortT_perm 64 _).symm)
              · have m1 := hall a (hsn.mem_iff.mp ha)
                have m2 := hall b ((sortT_perm 64 _).mem_iff.mp hb)
                exact code_inj (by omega) m1.2 m2.2 (by omega)
              · rw [List.pairwise_map]
                rw [List.pairwise_map] at hs
                exact hs
            refine newL s (QA.unzip fun z hz => hzq z (hp.mem_iff.mp hz)) ?_ k p hpn
            rw [hes]
      · rw [if_neg hok] at e; cases e
  · cases e
theorem car_sortedA : CallR X (.builtin "sorted") (fun vs H Q => rSortedI X.K vs H Q ∨ rSortedT X.K vs H Q) := cr_sortedI.or cr_sortedT
def sortAD (ds : List D) : Option D := match sortD ds with
  | some d => some d
  | none => sortTD ds
theorem cad_sortedA : CaD X c.ns (fun vs H Q => rSortedI X.K vs H Q ∨ rSortedT X.K vs H Q) sortAD := fun G H vs ds d Qk e s b k => by
  unfold sortAD at e
  cases h : sortD ds with
  | some d' =>
    rw [h] at e
    cases e
    exact .inl (cad_sorted G H vs ds d Qk h s b k)
  | none =>
    rw [h] at e
    exact .inr (cad_sortedT G H vs ds d Qk e s b k)
end
end M
namespace Men
open PySem PySem.Spec PyProof.Rows L2 HT
section
variable {prog : Program} {w : World} {A : Around} {E : Value → Shared → Prop} {s : Shared}
theorem sliceApplied_rev0 {sl : Addr} {vl vu vs : Value} {n : Nat} {Q : Int × Int × Nat → Shared → Prop} (hs : s.heap.IsSliceOf sl vl vu vs) (pl : IsPart vl none) (pu : IsPart vu (some 0)) (ps : IsPart vs (some (-1)))
    (h : Q ((n : Int) - 1, -1, n - 1) s) : wpAny (model prog w) A (Builtin.Slice.sliceApplied (.ref sl) (pure (n : Int))) Q E s := by
  obtain ⟨os, hos, hcs, hds⟩ := id hs
  unfold Builtin.Slice.sliceApplied Builtin.Slice.sliceFields
  refine wpAny_bind (wpAny_bind (wpAny_field hos hds (x := vl) rfl (wpAny_bind (wpAny_field hos hds (x := vu) rfl (wpAny_bind (wpAny_field hos hds (x := vs) rfl (wpAny_pure ?_)))))))
  refine wpAny_bind (slicePart_ ps ?_)
  show wpAny _ _ (if ((-1 : Int) == 0) = true then _ else _) _ _ s
  rw [if_neg (by decide)]
  refine wpAny_bind (slicePart_ pl (wpAny_bind (slicePart_ pu (wpAny_bind (wpAny_pure ?_)))))
  show wpAny _ _ (match Builtin.Slice.sliceAdjust none (some 0) (-1) (n : Int) with | (lo, hi) => pure (lo, (-1 : Int), Builtin.Slice.slicePlaces lo hi (-1))) _ _ s
  have e : Builtin.Slice.sliceAdjust none (some 0) (-1) (n : Int) = ((n : Int) - 1, min 0 ((n : Int) - 1)) := rfl
  rw [e]
  have e2 : Builtin.Slice.slicePlaces ((n : Int) - 1) (min 0 ((n : Int) - 1)) (-1) = n - 1 := by
    unfold Builtin.Slice.slicePlaces
    rw [if_neg (by decide)]
    by_cases c : (n : Int) - 1 > min 0 ((n : Int) - 1)
    · rw [if_pos c, show (- -1 : Int) = 1 by decide, Int.ediv_one]
      omega
    · rw [if_neg c]
      omega
  show wpAny _ _ (pure ((n : Int) - 1, (-1 : Int), Builtin.Slice.slicePlaces ((n : Int) - 1) (min 0 ((n : Int) - 1)) (-1))) _ _ s
  rw [e2]
  exact wpAny_pure h
theorem pick_rev0 (xs : Array Value) : ((List.range (xs.size - 1)).filterMap fun (m : Nat) => xs[((xs.size : Int) - 1 + (m : Int) * -1).toNat]?).toArray = (xs.toList.drop 1).reverse.toArray := by
  have h := pick_run xs 1 (xs.size - 1)
  rw [List.take_of_length_le (by simp)] at h
  congr 1
  rw [← h, ← List.filterMap_reverse, ← List.map_reverse, List.filterMap_map]
  have e : (List.range (xs.size - 1)).reverse = (List.range (xs.size - 1)).map fun m => xs.size - 1 - 1 - m := by
    refine List.ext_getElem (by simp) fun i h1 h2 => ?_
    simp at h1
    simp
  rw [e, List.filterMap_map]
  refine fm_congr _ fun m hm => ?_
  have := List.mem_range.mp hm
  show xs[((xs.size : Int) - 1 + (m : Int) * -1).toNat]? = xs[1 + (xs.size - 1 - 1 - m)]?
  rw [show ((xs.size : Int) - 1 + (m : Int) * -1).toNat = 1 + (xs.size - 1 - 1 - m) by omega]
theorem getItem_tuple_rev0 {t sl : Addr} {items : Array Value} {vl vu vs : Value} {Q : Value → Shared → Prop} (ht : IsTup s.heap t items) (hs : s.heap.IsSliceOf sl vl vu vs) (pl : IsPart vl none) (pu : IsPart vu (some 0)) (ps : IsPart vs (some (-1)))
    (h : Q (.ref s.heap.objs.size) { s with heap := s.heap.push { cls := .type "tuple", data := .seq (items.toList.drop 1).reverse.toArray } })
    (hsz : items.size ≤ sizeLine) : wpAny (model prog w) A (getItem (.ref t) (.ref sl)) Q E s :=
  tup_back ht hs (fun q => sliceApplied_rev0 hs pl pu ps q) (pick_rev0 items) (by simp; omega) h
end
section
variable {X : Cx}
def tRev0 (K : PySem.W.Frag) (te : TE) : TE := fun σ H Q => te σ H fun x H1 => ∃ a xs, x = .ref a ∧ SqT K H1 a xs ∧ ∀ p, H1 p = none → Q (.ref p) (upd H1 p (.tup (xs.drop 1).reverse))
theorem pe_rev0 {e : Expr} {te : TE} {k k0 : Nat} {p0 p1 p2 p3 pos : Pos} (he : PE X e te) : PE X (.Subscript e (.Slice none (some (.Constant (.int 0) k0 p0)) (some (.UnaryOp .USub (.Constant (.int 1) k p1) p2)) p3) pos) (tRev0 X.K te) := by
  refine pe_cut (te := te) he kn_no kn_int kn_neg fun pins s σ H Q x v sl vl vu vs I rel hs part1 part2 part3 ⟨a, xs, ex, hx, q⟩ => ?_
  subst ex
  cases rel
  obtain ⟨its, rv, p, fit⟩ := I.tuple hx
  have len := rv.length
  exact tail_any (ops := [.ref a, .ref sl]) p.typeIs (PyProof.Rows.slot_tuple_getitem.lookup) (getItem_tuple_rev0 p hs part1 part2 part3 (cut_laid I (o := .tup (xs.drop 1).reverse) ⟨by simp; omega, _, (rv.drop 1).reverse, IsTup.new _ _⟩ q) (by rw [List.size_toArray]; omega)) (by with_unfolding_all rfl)
end
end Men
namespace M
open PySem PySem.Spec PyProof.Rows L2
def rev0D : D → Option D
  | .tuple xs => some (.tuple (xs.drop 1).reverse)
  | _ => none
section
variable {X : Cx} {c : Cm} {W : WM}
theorem me_rev0 {e : Expr} {f : Rho → R D} {k k0 : Nat} {p0 p1 p2 p3 pos : Pos} (he : MB X c W e f) : ME X c W (.Subscript e (.Slice none (some (.Constant (.int 0) k0 p0)) (some (.UnaryOp .USub (.Constant (.int 1) k p1) p2)) p3) pos) (e1 rev0D f) :=
  PE.imp (Men.pe_rev0 he) fun σ H Qk ⟨G, ρ, ok, p⟩ => step ok p fun x G1 H1 v _ g1 r1 ok1 p1 => by
    cases x with
    | tuple xs =>
      obtain ⟨a, us, rfl, h1, q1, h2⟩ := r1.tuple ok1.s
      exact ⟨a, us, rfl, h1, newT ok1.s (q1.drop 1).rev rfl p1⟩
    | _ => exact p1.elim
end
end M

namespace M
open PySem PySem.Spec PyProof.Rows L2
/-- a comprehension's names, seen from within it -/
def relS (sc0 sc : Scope) : Scope := relabel sc { (default : Env) with scope := sc0 }
/-- a comprehension within a comprehension -/
theorem blkOk_in {X : Cx} {s : Shared} {H : Hp} {sc scope : Scope} {own : List (Str × Nat)} {C : Addr} {cl : List (Str × Addr)} {fp : List Addr} (N : List Str) (sc0 : Scope) (hN : X.N = N) (h0 : X.env.scope = sc0) (h : blkC N (relS sc0 sc) scope own = true) :
    BlkOk (X.blk s H sc (compEnvC sc cl C X.env) fp).N (X.blk s H sc (compEnvC sc cl C X.env) fp).env.scope scope own := by
  subst h0 hN
  exact blkOk_by h
end M

/-! tuples of ints of whose object it is known that it has no dict: t.index(x) -/
namespace M
open PySem PySem.Spec PyProof.Rows L2 HT
def NT (is : List Int) : D := .dict [(.bool true, .tuple (is.map .int))]
def wk : D → D
  | .dict [(.bool true, .tuple ds)] => .tuple ds
  | d => d
theorem SqN.t {K : PySem.W.Frag} {G : Hp} {a : Addr} {xs : List V} (h : SqN K G a xs) : SqT K G a xs := h.1
theorem Q.wk {K : PySem.W.Frag} {ns : Sc} {G : Hp} {v : V} {d : D} (q : Q K ns G v d) : Q K ns G v (M.wk d) := by
  unfold M.wk
  split
  · cases q with
    | ntp is h1 h2 => subst h2; exact .tup h1.1 QA.ints
    | obj j h1 h2 => cases h2
    | dk ks h1 h2 => cases ks <;> cases h2
    | dt ks h1 h2 => cases ks <;> cases h2
  · exact q
theorem B.wk {K : PySem.W.Frag} {ns : Sc} {G H : Hp} {v : V} {d : D} (q : B K ns G H v d) : B K ns G H v (M.wk d) := by
  rcases q with q | ⟨a, us, ds, e1', e2', e3', e4'⟩
  · exact .inl q.wk
  · subst e2'
    exact .inr ⟨a, us, ds, e1', rfl, e3', e4'⟩
theorem B.nt {K : PySem.W.Frag} {ns : Sc} {G H : Hp} {v : V} {ds : List D} (q : B K ns G H v (.dict [(.bool true, .tuple ds)])) : ∃ (a : Addr) (is : List Int), v = .ref a ∧ SqN K G a (is.map V.int) ∧ ds = is.map PyData.int := by
  rcases q with q | ⟨a, us, ds, _, e2', _⟩
  · cases q with
    | ntp is h1 h2 => exact ⟨_, is, rfl, h1, h2⟩
    | obj j h1 h2 => cases h2
    | dk ks h1 h2 => cases ks <;> cases h2
    | dt ks h1 h2 => cases ks <;> cases h2
  · cases e2'
def wkE (f : Rho → R D) : Rho → R D := fun ρ => (f ρ).bind fun x => .ok (wk x)
section
variable {X : Cx} {c : Cm} {W : WM}
theorem me_wk {e : Expr} {f : Rho → R D} (h : ME X c W e f) : ME X c W e (wkE f) := PE.imp h fun σ H Qk ⟨G, ρ, ok, p⟩ => ⟨G, ρ, ok, by
  unfold wkE at p
  cases e : f ρ with
  | ok a => rw [e] at p; exact fun G' H' v g q => p G' H' v g q.wk
  | rz z => rw [e] at p; exact p
  | bad => rw [e] at p; exact p⟩
theorem mb_wk {e : Expr} {f : Rho → R D} (h : MB X c W e f) : MB X c W e (wkE f) := PE.imp h fun σ H Qk ⟨G, ρ, ok, p⟩ => ⟨G, ρ, ok, by
  unfold wkE at p
  cases e : f ρ with
  | ok a => rw [e] at p; exact fun G' H' v g q => p G' H' v g q.wk
  | rz z => rw [e] at p; exact p
  | bad => rw [e] at p; exact p⟩
theorem nt_frz {o : Obj} {u : HO} (ps : Array Value) : HO.frz o u ≠ .tbl ps := fun z => nomatch z
/-- a new tuple, frozen with its object -/
theorem newN {K : PySem.W.Frag} {ns : Sc} {G H : Hp} {is : List Int} (s : Sub G H) {Qk : VK} (k : ∀ G' H' u, Gr G H G' H' → Q K ns G' u (NT is) → Qk u H') : ∀ (o : Obj), o.cls = .type "tuple" → o.dict = none → ∀ p, H p = none → Qk (.ref p) (upd H p (.frz o (.tup (is.map V.int)))) := fun o hc hd p hp =>
  k _ _ _ (Gr.new s hp nt_frz) (.ntp is ⟨.inl (.inr ⟨o, upd_same⟩), .inl ⟨o, _, upd_same, hc, hd⟩⟩ rfl)
/-- tuple(l), its object told -/
def rTupN (K : PySem.W.Frag) : List V → Hp → VK → Prop := fun xs H Q => ∃ p ys, xs = [.ref p] ∧ SqL K H p ys ∧ ∀ (o : Obj), o.cls = .type "tuple" → o.dict = none → ∀ l, H l = none → Q (.ref l) (upd H l (.frz o (.tup ys)))
theorem call_tupN : CallR X (.type "tuple") (rTupN X.K) := fun pins s σ H xs us Q I r h => by
  obtain ⟨p, ys, rfl, hq, k⟩ := h
  obtain ⟨u, rfl, ru⟩ := vals1 r
  cases ru
  obtain ⟨its, rv, pl, hz⟩ := I.list hq
  have hl := rv.length
  refine call_tuple_list pl.isList (fun h1 kp => ?_) (by rw [List.size_toArray, ← hl]; exact hz)
  have J : Inv X pins σ H { s with heap := h1 } := I.kept (t' := s.toks) kp
  refine ⟨.ref h1.objs.size, _, J.laid (t' := s.toks) (o := .frz { cls := .type "tuple", data := .seq its.toArray } (.tup ys)) (fun _ _ z => Heap.get?_push_of_some _ z) (Nat.le_refl _) ?_, rfl, k _ rfl rfl _ (J.hok.fresh (Nat.le_refl _))⟩
  exact ⟨Heap.get?_push_size _ rfl, hz, its, rv, IsTup.new _ _⟩
def tupN : List D → Option D
  | [.list xs] => (intsOf xs).map fun is => NT is
  | _ => none
theorem cad_tupN : CaD X c.ns (rTupN X.K) tupN := fun G H vs ds d Qk e s b k => by
  unfold tupN at e
  split at e
  · rename_i xs
    cases eb : intsOf xs with
    | none => rw [eb] at e; cases e
    | some bs =>
      rw [eb] at e
      cases e
      obtain rfl := ints_eq eb
      obtain ⟨v, ws, rfl, b1, b2⟩ := b.cons_inv
      obtain rfl := b2.nil_inv
      obtain ⟨a, us, rfl, h1, q1⟩ := b1.list s
      obtain rfl := q1.ints_inv
      exact ⟨a, _, rfl, SqL.of h1, newN s k⟩
  · cases e
/-- t[::-1], its object told -/
def tRevN (K : PySem.W.Frag) (te : TE) : TE := fun σ H Q => te σ H fun x H1 => ∃ a xs, x = .ref a ∧ SqT K H1 a xs ∧ ∀ (o : Obj), o.cls = .type "tuple" → o.dict = none → ∀ p, H1 p = none → Q (.ref p) (upd H1 p (.frz o (.tup xs.reverse)))
theorem pe_revN {e : Expr} {te : TE} {k : Nat} {p1 p2 p3 pos : Pos} (he : PE X e te) : PE X (.Subscript e (.Slice none none (some (.UnaryOp .USub (.Constant (.int 1) k p1) p2)) p3) pos) (tRevN X.K te) := by
  refine Men.pe_cut (te := te) he Men.kn_no Men.kn_no Men.kn_neg fun pins s σ H Q x v sl vl vu vs I rel hs part1 part2 part3 ⟨a, xs, ex, hx, q⟩ => ?_
  subst ex
  cases rel
  obtain ⟨its, rv, p, fit⟩ := I.tuple hx
  have len := rv.length
  exact tail_any (ops := [.ref a, .ref sl]) p.typeIs (PyProof.Rows.slot_tuple_getitem.lookup) (Men.getItem_tuple_rev p hs part1 part2 part3 (Men.cut_laid I (o := .frz { cls := .type "tuple", data := .seq its.toArray.toList.reverse.toArray } (.tup xs.reverse)) ⟨Heap.get?_push_size _ rfl, by simpa using fit, _, rv.reverse, IsTup.new _ _⟩ (q _ rfl rfl)) (by rw [List.size_toArray]; omega)) (by with_unfolding_all rfl)
def revN : D → Option D
  | .dict [(.bool true, .tuple ds)] => (intsOf ds.reverse).map fun is => NT is
  | .tuple ds => (intsOf ds.reverse).map fun is => NT is
  | _ => none
theorem me_revN {e : Expr} {f : Rho → R D} {k : Nat} {p1 p2 p3 pos : Pos} (he : MB X c W e f) : ME X c W (.Subscript e (.Slice none none (some (.UnaryOp .USub (.Constant (.int 1) k p1) p2)) p3) pos) (e1 revN f) :=
  PE.imp (pe_revN he) fun σ H Qk ⟨G, ρ, ok, p⟩ => step ok p fun x G1 H1 v _ g1 r1 ok1 p1 => by
    have key : ∀ ds, B X.K c.ns G1 H1 v (.tuple ds) → Post W (RelQ X.K c.ns) G1 H1 σ Qk (R.of ((intsOf ds.reverse).map fun is => NT is)) → ∃ a xs, v = .ref a ∧ SqT X.K H1 a xs ∧ ∀ (o : Obj), o.cls = .type "tuple" → o.dict = none → ∀ p, H1 p = none → Qk (.ref p) (upd H1 p (.frz o (.tup xs.reverse))) := fun ds r p1 => by
      obtain ⟨a, us, rfl, h1, q1, h2⟩ := r.tuple ok1.s
      cases eb : intsOf ds.reverse with
      | none => rw [eb] at p1; exact p1.elim
      | some bs =>
        rw [eb] at p1
        have q2 := q1.rev
        rw [ints_eq eb] at q2
        refine ⟨a, us, rfl, h1, ?_⟩
        rw [q2.ints_inv]
        exact newN ok1.s p1
    unfold revN at p1
    split at p1
    · exact key _ r1.wk p1
    · exact key _ r1 p1
    · exact p1.elim
/-- t.index(x) -/
def tBN (K : PySem.W.Frag) (r : V → List V → Hp → VK → Prop) (to : TE) (t : TA) : TE := fun σ H Q => to σ H fun x H1 => (∃ p, x = .ref p ∧ ((∃ o u, H1 p = some (.frz o u) ∧ o.cls = .type "tuple" ∧ o.dict = none) ∨ ∃ o, K.lookup p = some o ∧ o.cls = .type "tuple" ∧ o.dict = none)) ∧ t σ H1 fun xs H2 => r x xs H2 Q
theorem pe_bN {o e : Expr} {es : List Expr} {name : Str} {id : String} {r : V → List V → Hp → VK → Prop} {to : TE} {t : TA} {apos cpos : Pos} (pa : PlainAttrs "tuple") (slot : Slot "tuple" name id) (hty : typeOf (.builtin id) = pure (.type "method_descriptor")) (hm : MtR X id r) (ho : PE X o to) (ha : PA X (e :: es) t)
    (hbase : attributeBase o name X.env (eval o X.env) = eval o X.env := by rfl)
    (hfew : ((backTo cpos (starEach (e :: es) X.env)).all (fun x => !x.1) && (backToKw cpos (keywordEach [] X.env)).all (fun x => x.1.isSome) && decide ((e :: es).length + ([] : List Keyword).length + (if ([] : List Keyword).isEmpty then 0 else 1) < 30)) = true := by rfl)
    (hline : (apos.endLine == cpos.line) = true := by rfl) (hs : starEach (e :: es) X.env = (false, eval e X.env) :: starEach es X.env := by rfl) (hpl : (backTo cpos (starEach es X.env)).any (·.1) = false := by rfl) :
    PE X (.Call (.Attribute o name apos) (e :: es) [] cpos) (tBN X.K r to t) := ⟨fun pins s σ H Q I h => by
  refine wpAny_Call_method_late hbase hfew hline rfl (thn (ho.run pins s σ H _ I h) fun v s1 ⟨x, H1, I1, r1, ty, q1⟩ => ?_)
  have hT : s1.TypeIs v "tuple" ∧ ∀ a, v = .ref a → ∃ ob, s1.heap.get? a = some ob ∧ ob.dict = none := by
    obtain ⟨p, rfl, ⟨ob, u, hk, hc, hd⟩ | ⟨ob, hk, hc, hd⟩⟩ := ty
    · cases r1
      obtain ⟨hg, _⟩ := I1.hok p _ hk
      exact ⟨⟨ob, hg, hc⟩, fun a z => by cases z; exact ⟨ob, hg, hd⟩⟩
    · cases r1
      exact ⟨⟨ob, I1.kIn p ob hk, hc⟩, fun a z => by cases z; exact ⟨ob, I1.kIn p ob hk, hd⟩⟩
  refine ⟨"tuple", id, pa, slot, hty, hT.1, hT.2, ?_⟩
  have hA := ha.run cpos pins s1 σ H1 _ I1 q1
  rw [hs] at hA ⊢
  refine Calls.callWith_builtin (by show (false || (backTo cpos (starEach es X.env)).any (·.1)) = false; rw [hpl] <;> rfl) (Calls.evalArgs_plain (thn hA fun us s2 ⟨vs, H2, I2, r2, q2⟩ => ?_))
  exact hm pins s2 σ H2 x vs v us Q I2 r1 r2 q2⟩
def idxN (f g : Rho → R D) : Rho → R D := fun ρ => (f ρ).bind fun d => match d with
  | .dict [(.bool true, .tuple ds)] => (g ρ).bind fun x => R.of (idxL (.list ds) x)
  | _ => .bad
theorem me_idxN {E : Expr} {f g : Rho → R D} (h2 : PE X E (tBN X.K (rIndexT X.K) (tR X.K c W (RelB X.K c.ns) f) (tCons (tR X.K c W (RelB X.K c.ns) g) tNil))) : ME X c W E (idxN f g) :=
  PE.imp h2 fun σ H Qk ⟨G, ρ, ok, p⟩ => step ok p fun d G1 H1 v _ g1 r1 ok1 p1 => by
    split at p1
    · rename_i ds
      obtain ⟨a, is, rfl, h1, rfl⟩ := r1.nt
      have hs := SqN.same ok1.s.same h1
      refine ⟨⟨a, rfl, hs.2⟩, step ok1 p1 fun y G2 H2 w _ g2 r2 ok2 p2 => ?_⟩
      unfold idxL at p2
      dsimp only at p2
      by_cases hf : (flatD y && (is.map PyData.int).all flatD) = true
      · rw [if_pos hf] at p2
        cases ej : findI y (is.map .int) with
        | none => rw [ej] at p2; exact p2.elim
        | some j =>
          rw [ej] at p2
          obtain ⟨f1, f2, z, f3, f4, f5⟩ := idx_road (r2.q (Bool.and_eq_true_iff.mp hf).1) (QA.ints (is := is)) hf ej
          exact ⟨a, _, w, j, z, rfl, rfl, SqT.same ok2.s.same (SqT.same g2.g h1.1), f1, f2, f3, f4, f5, p2 G2 H2 _ (Gr.refl ok2.s) (.int _)⟩
      · rw [if_neg hf] at p2; exact p2.elim
    · exact p1.elim
end
end M

namespace M
open PySem PySem.Spec PyProof.Rows L2
/-! ### a, b, c, d = x, y, z, w -/
def sPar4 (i j k l : Nat) (f g h m : Rho → R Sl) : Rho → Out := fun ρ => (f ρ).out ρ fun s => (g ρ).out ρ fun t => (h ρ).out ρ fun u => (m ρ).out ρ fun w => .nx ((((ρ.set i s).set j t).set k u).set l w)
section
variable {X : Cx} {c : Cm} {W : WM}
theorem ms_par4 {i j k l : Nat} {tg a b d e : Expr} {f g h m : Rho → R Sl} {kk : Nat} {pt pos : Pos} (ha : MN X c W a f) (hb : MN X c W b g) (hd : MN X c W d h) (he : MN X c W e m) (hg : PG X tg (gTup X.K 4 (gCons (gName i) (gCons (gName j) (gCons (gName k) (gCons (gName l) gNil))))))
    (hs : swapsWithSole [tg] (.Tuple [a, b, d, e] kk pt) pos.line X.env = pure false := by rfl) (hw : swappedStores [tg] (.Tuple [a, b, d, e] kk pt) X.env = pure none := by rfl) (h1 : (assignEach [tg] X.env).map (·.2) = [assign tg X.env] := by rfl)
    (s1 : starEach [a, b, d, e] X.env = (false, eval a X.env) :: starEach [b, d, e] X.env := by rfl) (s2 : starEach [b, d, e] X.env = (false, eval b X.env) :: starEach [d, e] X.env := by rfl) (s3 : starEach [d, e] X.env = (false, eval d X.env) :: starEach [e] X.env := by rfl) (s4 : starEach [e] X.env = (false, eval e X.env) :: starEach [] X.env := by rfl) :
    MS X c W (.Assign [tg] (.Tuple [a, b, d, e] kk pt) pos) (sPar4 i j k l f g h m) :=
  PS.imp (ps_asg (pe_tup (pa_cons ha (pa_cons hb (pa_cons hd (pa_cons he pa_nil s4) s3) s2) s1)) hg hs hw h1) fun De σ H ⟨G, ρ, ok, p⟩ => stepSN ok p fun s G1 H1 v1 _ g1 r1 ok1 p1 => stepSN ok1 p1 fun t G2 H2 v2 _ g2 r2 ok2 p2 => stepSN ok2 p2 fun u G3 H3 v3 _ g3 r3 ok3 p3 => stepSN ok3 p3 fun w G4 H4 v4 _ g4 r4 ok4 p4 =>
    ⟨sz (by simp), fun q hq => ⟨q, [v1, v2, v3, v4], rfl, .inl (.inl upd_same), rfl, v1, _, rfl, v2, _, rfl, v3, _, rfl, v4, _, rfl, rfl, p4 G4 _ _ (Same.refl G4) (((((ok.new g1 i r1).new g2 j r2).new g3 k r3).new g4 l r4).gr (Gr.own ok4.s hq))⟩⟩
end
end M

/-! a < b and sorted of data that are alike: (int, list) -/
namespace M
open PySem PySem.Spec PyProof.Rows L2
/-! ### (int, list of ints) -/
def lx : List Int → List Int → Bool
  | [], [] => false
  | [], _ :: _ => true
  | _ :: _, [] => false
  | x :: xs, y :: ys => if x = y then lx xs ys else decide (x < y)
theorem lx_irr : ∀ xs : List Int, lx xs xs = false
  | [] => rfl
  | x :: xs => by rw [lx, if_pos rfl, lx_irr xs]
theorem lx_tri : ∀ xs ys : List Int, lx xs ys = false → lx ys xs = false → xs = ys
  | [], [], _, _ => rfl
  | [], _ :: _, h, _ => by cases h
  | _ :: _, [], _, h => by cases h
  | x :: xs, y :: ys, h1, h2 => by
    rw [lx] at h1 h2
    by_cases c : x = y
    · subst c
      rw [if_pos rfl] at h1 h2
      rw [lx_tri xs ys h1 h2]
    · rw [if_neg c] at h1
      rw [if_neg (fun z => c z.symm)] at h2
      have := of_decide_eq_false h1
      have := of_decide_eq_false h2
      omega
theorem lx_trans : ∀ xs ys zs : List Int, lx xs ys = true → lx ys zs = true → lx xs zs = true
  | [], [], _, h, _ => by cases h
  | [], _ :: _, [], _, h => by cases h
  | [], _ :: _, _ :: _, _, _ => rfl
  | _ :: _, [], _, h, _ => by cases h
  | _ :: _, _ :: _, [], _, h => by cases h
  | x :: xs, y :: ys, z :: zs, h1, h2 => by
    rw [lx] at h1 h2 ⊢
    by_cases c1 : x = y
    · rw [if_pos c1] at h1
      by_cases c2 : y = z
      · rw [if_pos c2] at h2
        rw [if_pos (c1.trans c2)]
        exact lx_trans xs ys zs h1 h2
      · rw [if_neg c2] at h2
        rw [if_neg (fun q => c2 (c1.symm.trans q)), c1]
        exact h2
    · rw [if_neg c1] at h1
      have a := of_decide_eq_true h1
      by_cases c2 : y = z
      · rw [if_neg (fun q => c1 (q.trans c2.symm)), ← c2]
        exact h1
      · rw [if_neg c2] at h2
        have b := of_decide_eq_true h2
        rw [if_neg (by omega)]
        exact decide_eq_true (by omega)
theorem lx_asym (xs ys : List Int) (h : lx xs ys = true) : lx ys xs = false := by
  cases e : lx ys xs with
  | false => rfl
  | true =>
    have := lx_trans _ _ _ h e
    rw [lx_irr] at this
    cases this
theorem lx_lt : ∀ xs ys : List Int, decide (xs < ys) = lx xs ys
  | [], [] => by simp [lx]
  | [], _ :: _ => by simp [lx]
  | _ :: _, [] => by simp [lx]
  | x :: xs, y :: ys => by
    rw [lx, ← lx_lt xs ys]
    by_cases c : x = y
    · subst c
      simp [List.cons_lt_cons_iff]
    · rw [if_neg c]
      simp [List.cons_lt_cons_iff, c]
def pD (z : Int × List Int) : D := .tuple [.int z.1, .list (z.2.map .int)]
def ltZ (z w : Int × List Int) : Bool := if z.1 = w.1 then lx z.2 w.2 else decide (z.1 < w.1)
theorem ltZ_irr (z : Int × List Int) : ltZ z z = false := by rw [ltZ, if_pos rfl, lx_irr]
theorem ltZ_trans {a b d : Int × List Int} (h1 : ltZ a b = true) (h2 : ltZ b d = true) : ltZ a d = true := by
  unfold ltZ at h1 h2 ⊢
  by_cases c1 : a.1 = b.1
  · rw [if_pos c1] at h1
    by_cases c2 : b.1 = d.1
    · rw [if_pos c2] at h2
      rw [if_pos (c1.trans c2)]
      exact lx_trans _ _ _ h1 h2
    · rw [if_neg c2] at h2
      rw [if_neg (fun q => c2 (c1.symm.trans q)), c1]
      exact h2
  · rw [if_neg c1] at h1
    have a' := of_decide_eq_true h1
    by_cases c2 : b.1 = d.1
    · rw [if_neg (fun q => c1 (q.trans c2.symm)), ← c2]
      exact h1
    · rw [if_neg c2] at h2
      have b' := of_decide_eq_true h2
      rw [if_neg (by omega)]
      exact decide_eq_true (by omega)
theorem ltZ_asym {a b : Int × List Int} (h : ltZ a b = true) : ltZ b a = false := by
  cases e : ltZ b a with
  | false => rfl
  | true =>
    have := ltZ_trans h e
    rw [ltZ_irr] at this
    cases this
theorem ltZ_tri {a b : Int × List Int} (h1 : ltZ a b = false) (h2 : ltZ b a = false) : a = b := by
  unfold ltZ at h1 h2
  by_cases c : a.1 = b.1
  · rw [if_pos c] at h1
    rw [if_pos c.symm] at h2
    exact Prod.ext c (lx_tri _ _ h1 h2)
  · rw [if_neg c] at h1
    rw [if_neg (fun q => c q.symm)] at h2
    have := of_decide_eq_false h1
    have := of_decide_eq_false h2
    omega
theorem alike_pD (z w : Int × List Int) : PySem.W.alike (pD z) (pD w) = true := by
  simp [pD, PySem.W.alike, PySem.W.alikeAll, PySem.W.alike_ints]
theorem lay_is (xs : List Int) : PyData.canLayAll0 (xs.map .int) = true := by
  induction xs with
  | nil => simp [PyData.canLayAll0]
  | cons x xs ih => simp [PyData.canLayAll0, PyData.canLay0, ih]
theorem shaped_pD (z : Int × List Int) : SeqAt.shaped (pD z) = true := by
  simp [SeqAt.shaped, pD, PyData.canLay0, PyData.canLayAll0, PyData.depth, PyData.depthAll, PySem.W.depth_ints, lay_is]
theorem eqv_is (xs ys : List Int) : PyData.eqvAll (xs.map .int) (ys.map .int) = decide (xs = ys) := by
  induction xs generalizing ys with
  | nil => cases ys <;> simp [PyData.eqvAll]
  | cons x xs ih =>
    cases ys with
    | nil => simp [PyData.eqvAll]
    | cons y ys =>
      simp only [List.map_cons, PyData.eqvAll, PyData.eqv, ih]
      by_cases c : x = y <;> simp [c]
theorem dataLt_pD (z w : Int × List Int) : PySem.W.dataLt (pD z) (pD w) = ltZ z w := by
  unfold pD ltZ
  rw [PySem.W.dataLt_pair (by rfl) (by simp [PySem.W.alike, PySem.W.alike_ints]), PySem.W.dataLt_list, PySem.W.dataLt_int]
  have e := PySem.W.dataLt_ints z.2 w.2
  unfold PySem.W.rowLt at e
  rw [e, lx_lt]
  simp only [PyData.eqv, eqv_is]
  by_cases c : z.1 = w.1
  · rw [if_pos c, if_pos (by simpa using c)]
    by_cases c2 : z.2 = w.2
    · rw [decide_eq_true c2, if_pos rfl, c2, lx_irr]
    · rw [decide_eq_false c2, if_neg (by decide)]
  · rw [if_neg c, if_neg (by simpa using c)]
def prP : D → Option (Int × List Int)
  | .tuple [.int a, .list xs] => (intsOf xs).map fun is => (a, is)
  | _ => none
theorem prP_eq {d : D} {z : Int × List Int} (h : prP d = some z) : d = pD z := by
  unfold prP at h
  split at h
  · rename_i a xs
    cases e : intsOf xs with
    | none => rw [e] at h; cases h
    | some is =>
      rw [e] at h
      cases h
      rw [ints_eq e]
      rfl
  · cases h
theorem prP_pD (z : Int × List Int) : prP (pD z) = some z := by
  simp [prP, pD, ints_map]
def rowsP : List D → Option (List (Int × List Int))
  | [] => some []
  | d :: ds => match prP d, rowsP ds with
    | some z, some zs => some (z :: zs)
    | _, _ => none
theorem rowsP_eq : ∀ {ds : List D} {zs : List (Int × List Int)}, rowsP ds = some zs → ds = zs.map pD
  | [], _, h => by cases h; rfl
  | d :: ds, zs, h => by
    unfold rowsP at h
    split at h
    · rename_i z zs' e1' e2'
      cases h
      rw [List.map_cons, ← prP_eq e1', ← rowsP_eq e2']
    · cases h
theorem rowsP_map (zs : List (Int × List Int)) : rowsP (zs.map pD) = some zs := by
  induction zs with
  | nil => rfl
  | cons z zs ih => rw [List.map_cons, rowsP, prP_pD, ih]
def insZ (x : Int × List Int) : List (Int × List Int) → List (Int × List Int)
  | [] => [x]
  | y :: l => if ltZ y x then y :: insZ x l else x :: y :: l
def sortZ : List (Int × List Int) → List (Int × List Int)
  | [] => []
  | x :: l => insZ x (sortZ l)
def leZ (z w : Int × List Int) : Bool := !ltZ w z
theorem insZ_perm (x : Int × List Int) : ∀ l, (insZ x l).Perm (x :: l)
  | [] => .refl _
  | y :: l => by
    rw [insZ]
    split
    · exact ((insZ_perm x l).cons y).trans (.swap x y l)
    · exact .refl _
theorem sortZ_perm : ∀ l, (sortZ l).Perm l
  | [] => .refl _
  | x :: l => (insZ_perm x (sortZ l)).trans ((sortZ_perm l).cons x)
theorem leZ_trans (a b d : Int × List Int) (h1 : leZ a b = true) (h2 : leZ b d = true) : leZ a d = true := by
  unfold leZ at *
  simp only [Bool.not_eq_true'] at *
  cases e : ltZ d a with
  | false => rfl
  | true =>
    cases e2 : ltZ a b with
    | true =>
      have := ltZ_trans e e2
      rw [h2] at this
      cases this
    | false =>
      have := ltZ_tri e2 h1
      subst this
      rw [h2] at e
      cases e
theorem leZ_total (a b : Int × List Int) : (leZ a b || leZ b a) = true := by
  unfold leZ
  cases e : ltZ a b with
  | true => rw [ltZ_asym e]; rfl
  | false => simp
theorem insZ_sorted (x : Int × List Int) : ∀ {l : List (Int × List Int)}, l.Pairwise (fun a b => leZ a b = true) → (insZ x l).Pairwise (fun a b => leZ a b = true)
  | [], _ => List.pairwise_singleton _ _
  | y :: l, h => by
    rw [List.pairwise_cons] at h
    rw [insZ]
    split
    · rename_i c
      rw [List.pairwise_cons]
      refine ⟨fun z hz => ?_, insZ_sorted x h.2⟩
      rcases List.mem_cons.mp ((insZ_perm x l).mem_iff.mp hz) with rfl | hz
      · unfold leZ
        rw [ltZ_asym c]
        rfl
      · exact h.1 z hz
    · rename_i c
      have hxy : leZ x y = true := by unfold leZ; simpa using c
      rw [List.pairwise_cons]
      refine ⟨fun z hz => ?_, List.pairwise_cons.mpr h⟩
      rcases List.mem_cons.mp hz with rfl | hz
      · exact hxy
      · exact leZ_trans _ _ _ hxy (h.1 z hz)
theorem sortZ_sorted : ∀ l, (sortZ l).Pairwise (fun a b => leZ a b = true)
  | [] => .nil
  | x :: l => insZ_sorted x (sortZ_sorted l)
theorem merge_sortZ (zs : List (Int × List Int)) : zs.mergeSort leZ = sortZ zs := by
  refine List.Perm.eq_of_pairwise (le := fun a b => leZ a b = true) (fun a b _ _ h1 h2 => ?_) (List.pairwise_mergeSort leZ_trans leZ_total zs) (sortZ_sorted zs) ((List.mergeSort_perm zs leZ).trans (sortZ_perm zs).symm)
  unfold leZ at h1 h2
  simp only [Bool.not_eq_true'] at h1 h2
  exact ltZ_tri h2 h1
section
variable {X : Cx} {c : Cm} {W : WM}
def rLtD (K : PySem.W.Frag) : R2 := fun x y H Q => ∃ d e, Dp K H x d ∧ Dp K H y e ∧ SeqAt.shaped d = true ∧ PySem.W.alike d e = true ∧ d ≠ .none ∧ Q (.bl (PySem.W.dataLt d e)) H
theorem op_ltD (hu : X.A.units + 65 < cLine) : OpR X (compareOp .Lt) (rLtD X.K) := fun pins s σ H x y v u Q I rx ry h => by
  obtain ⟨d, e, hd, he, sd, al, hn, q⟩ := h
  obtain ⟨as, r1⟩ := Dp.reads I d x v hd rx
  obtain ⟨bs, r2⟩ := Dp.reads I e y u he ry
  have hdp : d.depth ≤ 64 := by
    unfold SeqAt.shaped at sd
    have := (Bool.and_eq_true_iff.mp sd).2
    exact of_decide_eq_true this
  have R := PySem.W.rcLt_alike d e X.A s v u as bs r1 r2 al hn (by
    have := Nat.min_le_left d.depth e.depth
    omega)
  exact R X.prog X.w X.xe (EP X pins σ Q) ⟨.bl _, H, I, rfl, q⟩
def ltAD (x y : D) : Option Bool := match prP x, prP y with
  | some z, some w => some (ltZ z w)
  | _, _ => none
theorem cmd_ltA : CmD X c.ns (rLtD X.K) ltAD := fun G H v w x y d Qk e s b1 b2 k => by
  unfold ltAD at e
  split at e
  · rename_i z w' h1 h2
    cases e
    have e1' := prP_eq h1
    have e2' := prP_eq h2
    subst e1' e2'
    refine ⟨_, _, b1.dp s (shaped_pD z), b2.dp s (shaped_pD w'), shaped_pD z, alike_pD z w', (fun q => nomatch q), ?_⟩
    rw [dataLt_pD]
    exact k G H (Gr.refl s)
  · cases e
theorem units70 {k : Nat} {A : Around} (r : Room k A) : A.units + 70 < cLine := by have := r.un; omega
/-! ### sorted -/
theorem each_vals {H : Hp} {pins : List (Addr × Obj)} {σ : L2.St} {s : Shared} (I : Inv X pins σ H s) : ∀ {xs : List V} {ds : List D} {us : List Value}, DpAll X.K H xs ds → Vals xs us → PySem.W.EachIs (fun u (z : V × D) => RelV z.1 u) us (xs.zip ds) ∧ PySem.W.EachIs (fun u (z : V × D) => ∃ as, Reads s.heap u z.2 as) us (xs.zip ds) ∧ (xs.zip ds).map (·.2) = ds ∧ xs.length = ds.length
  | [], [], _, _, r => by cases r; exact ⟨.nil, .nil, rfl, rfl⟩
  | [], _ :: _, _, h, _ => by cases h
  | _ :: _, [], _, h, _ => by cases h
  | x :: xs, d :: ds, _, h, r => by
    cases h with
    | cons h1 h2 =>
      cases r with
      | cons r1 r2 =>
        obtain ⟨a, b, e, l⟩ := each_vals I h2 r2
        exact ⟨.cons r1 a, .cons (Dp.reads I d x _ h1 r1) b, by simp [e], by simp [l]⟩
theorem vals_each : ∀ {us : List Value} {zs : List (V × D)}, PySem.W.EachIs (fun u (z : V × D) => RelV z.1 u) us zs → Vals (zs.map (·.1)) us
  | _, _, .nil => .nil
  | _, _, .cons h t => .cons h (vals_each t)
def tupAll (ds : List D) : Bool := ds.all fun d => match d with
  | .tuple (_ :: _) => true
  | _ => false
def alikeB (ds : List D) : Bool := ds.all fun d => ds.all fun e => PySem.W.alike d e
def leP (x y : D) : Bool := !PySem.W.dataLt y x
def rSortP (K : PySem.W.Frag) : List V → Hp → VK → Prop := fun vs H Q => ∃ (a : Addr) (xs : List V) (ds : List D), vs = [V.ref a] ∧ SqL K H a xs ∧ DpAll K H xs ds ∧ alikeB ds = true ∧ tupAll ds = true ∧ (∀ d ∈ ds, SeqAt.shaped d = true) ∧
  ∀ p, H p = none → Q (.ref p) (upd H p (.lst (((xs.zip ds).mergeSort fun y z => leP y.2 z.2).map (·.1))))
theorem cr_sortP (hu : X.A.units + 70 < cLine) : CallR X (.builtin "sorted") (rSortP X.K) := fun pins s σ H vs us Q I r h => by
  obtain ⟨a, xs, ds, rfl, hs, hdp, hal, htu, hsh, q⟩ := h
  obtain ⟨its, rv, hl, hz⟩ := I.list hs
  obtain ⟨u, rfl, ru⟩ := vals1 r
  obtain rfl : u = Value.ref a := ru
  obtain ⟨e1', e2', e3', e4'⟩ := each_vals I hdp rv
  refine PySem.W.sorted_data (enc := fun z : V × D => z.2) hl.isList e1' e2' ?_ ?_ ?_ (fun z hzm => ?_) fun out hol hE => ?_
  · rw [e3']
    exact fun d hd e he => List.all_eq_true.mp (List.all_eq_true.mp hal d hd) e he
  · rw [e3']
    refine .inl fun d hd => ?_
    have := List.all_eq_true.mp htu d hd
    split at this
    · rename_i x r
      exact ⟨x, r, rfl⟩
    · cases this
  · rw [List.length_zip, ← e4', Nat.min_self]
    exact hz
  · have hd : z.2 ∈ ds := (List.of_mem_zip (a := z.1) (b := z.2) hzm).2
    have sd := hsh _ hd
    unfold SeqAt.shaped at sd
    have := of_decide_eq_true (Bool.and_eq_true_iff.mp sd).2
    show X.A.units + 2 + z.2.depth < cLine
    omega
  · have he : PySem.W.dataLe false (fun z : V × D => z.2) = fun y z => leP y.2 z.2 := by
      rw [PySem.W.dataLe_eq]
      rfl
    rw [he] at hE
    obtain ⟨n, hn⟩ := sortedAll_at s.heap its out.toArray
    refine ⟨.ref _, _, I.laid (t' := s.toks) (o := .lst (((xs.zip ds).mergeSort fun y z => leP y.2 z.2).map (·.1))) (fun b o e => sortedAll_old e) (Nat.le_succ _) ⟨?_, out, n, vals_each hE, hn⟩, rfl, q _ (I.hok.fresh (Nat.le_succ _))⟩
    rw [List.length_map, List.length_mergeSort, List.length_zip, ← e4', Nat.min_self]
    exact hz
def sortPD : List D → Option D
  | [.list ds] => (rowsP ds).map fun zs => .list ((sortZ zs).map pD)
  | _ => none
theorem QA.zipQ {K : PySem.W.Frag} {ns : Sc} {G : Hp} : ∀ {us : List V} {ds : List D}, QA K ns G us ds → us.length = ds.length ∧ (us.zip ds).map (·.2) = ds ∧ ∀ z ∈ us.zip ds, Q K ns G z.1 z.2
  | us, [], q => by cases q; exact ⟨rfl, rfl, fun z hz => by simp at hz⟩
  | us, d :: ds, q => by
    cases q with
    | cons q1 q2 =>
      obtain ⟨h1, h2, h3⟩ := QA.zipQ q2
      exact ⟨by simp [h1], by simp [h2], fun z hz => by
        rw [List.zip_cons_cons] at hz
        rcases List.mem_cons.mp hz with rfl | hz
        · exact q1
        · exact h3 z hz⟩
theorem QA.ofZip {K : PySem.W.Frag} {ns : Sc} {G : Hp} : ∀ {zs : List (V × D)}, (∀ z ∈ zs, Q K ns G z.1 z.2) → QA K ns G (zs.map (·.1)) (zs.map (·.2))
  | [], _ => .nil
  | z :: zs, h => .cons (h z (by simp)) (QA.ofZip fun y hy => h y (by simp [hy]))
theorem dpAll_of {K : PySem.W.Frag} {ns : Sc} {G H : Hp} (s : Same G H) : ∀ {us : List V} {ds : List D}, QA K ns G us ds → (∀ d ∈ ds, SeqAt.shaped d = true) → DpAll K H us ds
  | us, [], q, _ => by cases q; exact .nil
  | us, d :: ds, q, h => by
    cases q with
    | cons q1 q2 => exact .cons (Q.dp s d _ (SeqAt.canLay_of_shaped (h d (by simp))) q1) (dpAll_of s q2 fun e he => h e (by simp [he]))
theorem cad_sortP : CaD X c.ns (rSortP X.K) sortPD := fun G H vs ds d Qk e s b k => by
  unfold sortPD at e
  split at e
  · rename_i xs
    cases er : rowsP xs with
    | none => rw [er] at e; cases e
    | some zs =>
      rw [er] at e
      cases e
      have hxs := rowsP_eq er
      subst hxs
      obtain ⟨v, ws, rfl, b1, b2⟩ := b.cons_inv
      obtain rfl := b2.nil_inv
      obtain ⟨a, us, rfl, h1, q1⟩ := b1.list s
      have hsh : ∀ d ∈ zs.map pD, SeqAt.shaped d = true := fun d hd => by
        obtain ⟨z, _, rfl⟩ := List.mem_map.mp hd
        exact shaped_pD z
      have hal : alikeB (zs.map pD) = true := List.all_eq_true.mpr fun d hd => List.all_eq_true.mpr fun e he => by
        obtain ⟨z, _, rfl⟩ := List.mem_map.mp hd
        obtain ⟨w, _, rfl⟩ := List.mem_map.mp he
        exact alike_pD z w
      have htu : tupAll (zs.map pD) = true := List.all_eq_true.mpr fun d hd => by
        obtain ⟨z, _, rfl⟩ := List.mem_map.mp hd
        rfl
      obtain ⟨z1, z2, z3⟩ := q1.zipQ
      refine ⟨a, us, _, rfl, SqL.of h1, dpAll_of s.same q1 hsh, hal, htu, hsh, newL s (QA.ofZip fun z hz => z3 z (List.mem_mergeSort.mp hz)) ?_ k⟩
      have e : (((us.zip (zs.map pD)).mergeSort fun y z => leP y.2 z.2).map (·.2)) = (sortZ zs).map pD := by
        rw [List.map_mergeSort (s := leP) (fun a _ b _ => rfl), z2, ← merge_sortZ, List.map_mergeSort (s := leP) (fun a _ b _ => ?_)]
        unfold leZ leP
        rw [dataLt_pD]
      rw [e]
  · cases e
end
end M

namespace M
open PySem PySem.Spec PyProof.Rows L2 HT
/-! ### l[1::2] -/
def odds {α : Type} : List α → List α
  | _ :: y :: l => y :: odds l
  | _ => []
theorem odds_range {α : Type} : ∀ l : List α, ((List.range (l.length / 2)).filterMap fun (k : Nat) => l[1 + 2 * k]?) = odds l
  | [] => by simp [odds]
  | [_] => by simp [odds]
  | x :: y :: l => by
    have ih := odds_range l
    rw [show (x :: y :: l).length / 2 = l.length / 2 + 1 by simp [List.length_cons]; omega, List.range_succ_eq_map, List.filterMap_cons, List.filterMap_map]
    show y :: _ = y :: odds l
    rw [← ih]
    congr 1
theorem pick_odd (items : Array Value) : slicePick items (some 1) none (some 2) = (odds items.toList).toArray := by
  unfold slicePick
  have e : sliceBounds (some 1) none (some 2) items.size = (max 0 (min 1 (items.size : Int)), (items.size : Int), 2) := rfl
  rw [e]
  have e2 : sliceRange (max 0 (min 1 (items.size : Int))) (items.size : Int) 2 = (List.range (items.size / 2)).map fun (k : Nat) => 1 + 2 * k := by
    unfold sliceRange
    simp only [show (2 : Int) > 0 from by decide, if_true]
    by_cases h : (1 : Int) < (items.size : Int)
    · rw [show max 0 (min 1 (items.size : Int)) = 1 by omega, if_pos h, show (((items.size : Int) - 1 + 2 - 1) / 2).toNat = items.size / 2 by omega]
      apply List.map_congr_left
      intro k _
      omega
    · have hz : items.size / 2 = 0 := by omega
      rw [if_neg (by omega), hz]
      rfl
  show ((sliceRange (max 0 (min 1 (items.size : Int))) (items.size : Int) 2).filterMap (items[·]?)).toArray = _
  rw [e2, List.filterMap_map, ← odds_range, Array.length_toList]
  congr 1
  apply Men.fm_congr
  intro k _
  simp
theorem vals_odds : ∀ {xs : List V} {us : List Value}, Vals xs us → Vals (odds xs) (odds us)
  | _, _, .nil => .nil
  | _, _, .cons _ .nil => .nil
  | _, _, .cons _ (.cons r t) => .cons r (vals_odds t)
theorem QA.odds {K : PySem.W.Frag} {ns : Sc} {G : Hp} : ∀ {ds : List D} {vs : List V}, QA K ns G vs ds → QA K ns G (M.odds vs) (M.odds ds)
  | [], _, h => by cases h; exact .nil
  | [_], _, h => by
    cases h with
    | cons h1 h2 => cases h2; exact .nil
  | _ :: _ :: ds, _, h => by
    cases h with
    | cons h1 h2 =>
      cases h2 with
      | cons h3 h4 => exact .cons h3 (QA.odds h4)
theorem odds_len {α : Type} : ∀ l : List α, (odds l).length ≤ l.length
  | [] => Nat.le_refl _
  | [_] => Nat.zero_le _
  | _ :: _ :: l => by
    have := odds_len l
    simp [odds]
    omega
section
variable {X : Cx} {c : Cm} {W : WM}
def tOdd (K : PySem.W.Frag) (te : TE) : TE := fun σ H Q => te σ H fun x H1 => ∃ a xs, x = .ref a ∧ SqL K H1 a xs ∧ ∀ p, H1 p = none → Q (.ref p) (upd H1 p (.lst (odds xs)))
theorem pe_odd {e : Expr} {te : TE} {k k2 : Nat} {p1 p2 p3 pos : Pos} (he : PE X e te) : PE X (.Subscript e (.Slice (some (.Constant (.int 1) k p1)) none (some (.Constant (.int 2) k2 p2)) p3) pos) (tOdd X.K te) := by
  refine Men.pe_cut (te := te) he Men.kn_int Men.kn_no Men.kn_int fun pins s σ H Q x v sl vl vu vs I rel hs part1 part2 part3 ⟨a, xs, ex, hx, q⟩ => ?_
  subst ex
  cases rel
  obtain ⟨its, rv, p, fit⟩ := I.list hx
  have len := rv.length
  refine tail_any (ops := [.ref a, .ref sl]) p.isList.typeIs (PySem.slot_list_getitem.lookup) (wpAny_getItem_list_slice p.isList hs part1 part2 part3 (by decide) ?_ (by rw [List.size_toArray]; omega)) (by with_unfolding_all rfl)
  rw [pick_odd]
  exact Men.cut_laid I (o := .lst (odds xs)) ⟨Nat.le_trans (odds_len xs) fit, odds its, 0, vals_odds rv, Heap.get?_push_size _ rfl⟩ q
def oddD : D → Option D
  | .list xs => some (.list (odds xs))
  | _ => none
theorem me_odd {e : Expr} {f : Rho → R D} {k k2 : Nat} {p1 p2 p3 pos : Pos} (he : MB X c W e f) : ME X c W (.Subscript e (.Slice (some (.Constant (.int 1) k p1)) none (some (.Constant (.int 2) k2 p2)) p3) pos) (e1 oddD f) :=
  PE.imp (pe_odd he) fun σ H Qk ⟨G, ρ, ok, p⟩ => step ok p fun x G1 H1 v _ g1 r1 ok1 p1 => by
    cases x with
    | list xs =>
      obtain ⟨a, us, rfl, h1, q1⟩ := r1.list ok1.s
      exact ⟨a, us, rfl, SqL.of h1, newL ok1.s q1.odds rfl p1⟩
    | _ => exact p1.elim
end
end M

/-! defs that raise -/
namespace M
open PySem PySem.Spec PyProof.Rows L2
def wm (mg : Str → Option Value) (V : WX) : WM := fun z σ H => ∀ C, mg z = some (.ref C) → V (.ref C) none σ H
section
variable {X : Cx} {c : Cm} {V : WX}
theorem ms_raise {z : Str} {C : Addr} {e : Expr} {pos : Pos} (hc : X.calm = true) (tk : L2.Takes X V) (he : L2.PMk X e (fun _ H Q => Q (.ref C) none H)) (hm : X.mg z = some (.ref C)) : MS X c (wm X.mg V) (.Raise (some e) none pos) (fun ρ => .rz z ρ) :=
  PS.imp (L2.ps_raise hc tk he) fun De σ H ⟨G, ρ, ok, p⟩ => p G H σ (Same.refl G) ok C hm
theorem me_callX {k : Nat} {fa : Addr} {fd : FuncData} {ps : List Str} {x : Str} {p pos : Pos} {e : Expr} {es : List Expr} {f : List D → Out} {g : Rho → R (List D)} (F : FnOk X.prog X.w X.K X.mg X.base (L2.CX X.prog X.w) k fa fd ps (spM X.K c.ns X.mg f)) (tk : L2.Takes X V) (hr : Room k X.A) (hg : Gl X x) (hm : X.mg x = some (.ref fa)) (hk : PySem.W.keepIn X.K (.ref fa) = true) (hb : Binds X.K fd ps [])
    (ha : MA X c (wm X.mg V) (e :: es) g) (hdb : (x == ("__debug__" : Str)) = false := by decide) (he : starEach (e :: es) X.env = (false, eval e X.env) :: starEach es X.env := by rfl) (hpl : (backTo pos (starEach es X.env)).any (·.1) = false := by rfl) :
    ME X c (wm X.mg V) (.Call (.Name x p) (e :: es) [] pos) (call f g) :=
  PE.imp (L2.pe_callS F hr hg hm hk hb (fun σ => L2.passAt tk σ) ha hdb he hpl) fun σ H Qk ⟨G, ρ, ok, p⟩ => step ok p fun ds G1 H1 vs _ g1 r1 ok1 p1 => by
    refine ⟨G1, ds, ok1.s, r1, ?_⟩
    cases e : f ds with
    | rt x => rw [e] at p1; exact p1
    | rf xs =>
      rw [e] at p1
      exact fun G' H' a us g n h1 h2 q => p1 (upd G' a (.lst us)) H' _ (g.seal n h1 h2) (.lst upd_same (QA.mono (new_same h2) _ _ q))
    | rz z ρ' => rw [e] at p1; exact fun G' H' g C hC => p1 G' H' g C hC
    | _ => rw [e] at p1; exact p1.elim
theorem mn_callX {k : Nat} {fa : Addr} {fd : FuncData} {ps : List Str} {x : Str} {p pos : Pos} {e : Expr} {es : List Expr} {f : List D → Out} {g : Rho → R (List D)} (F : FnOk X.prog X.w X.K X.mg X.base (L2.CX X.prog X.w) k fa fd ps (spM X.K c.ns X.mg f)) (tk : L2.Takes X V) (hr : Room k X.A) (hg : Gl X x) (hm : X.mg x = some (.ref fa)) (hk : PySem.W.keepIn X.K (.ref fa) = true) (hb : Binds X.K fd ps [])
    (ha : MA X c (wm X.mg V) (e :: es) g) (hdb : (x == ("__debug__" : Str)) = false := by decide) (he : starEach (e :: es) X.env = (false, eval e X.env) :: starEach es X.env := by rfl) (hpl : (backTo pos (starEach es X.env)).any (·.1) = false := by rfl) :
    MN X c (wm X.mg V) (.Call (.Name x p) (e :: es) [] pos) (ncall f g) :=
  PE.imp (L2.pe_callS F hr hg hm hk hb (fun σ => L2.passAt tk σ) ha hdb he hpl) fun σ H Qk ⟨G, ρ, ok, p⟩ => stepN ok p fun ds G1 H1 vs _ g1 r1 ok1 p1 => by
    refine ⟨G1, ds, ok1.s, r1, ?_⟩
    cases e : f ds with
    | rt x => rw [e] at p1; exact fun G' H' v g q => p1 G' H' v g q
    | rf xs =>
      rw [e] at p1
      exact fun G' H' a us g n h1 h2 q => p1 G' H' _ g ⟨a, us, rfl, h1, h2, n, q⟩
    | rz z ρ' => rw [e] at p1; exact fun G' H' g C hC => p1 G' H' g C hC
    | _ => rw [e] at p1; exact p1.elim
end
section
variable {X : Cx} {c : Cm} {W : WM}
/-- a call out of which nothing is raised, whatever is wished -/
theorem me_call0 {k : Nat} {fa : Addr} {fd : FuncData} {ps : List Str} {x : Str} {p pos : Pos} {e : Expr} {es : List Expr} {f : List D → Out} {g : Rho → R (List D)} (F : FnOk X.prog X.w X.K X.mg X.base CX0 k fa fd ps (spM X.K c.ns X.mg f)) (hr : Room k X.A) (hg : Gl X x) (hm : X.mg x = some (.ref fa)) (hk : PySem.W.keepIn X.K (.ref fa) = true) (hb : Binds X.K fd ps [])
    (ha : MA X c W (e :: es) g) (hdb : (x == ("__debug__" : Str)) = false := by decide) (he : starEach (e :: es) X.env = (false, eval e X.env) :: starEach es X.env := by rfl) (hpl : (backTo pos (starEach es X.env)).any (·.1) = false := by rfl) :
    ME X c W (.Call (.Name x p) (e :: es) [] pos) (call f g) :=
  PE.imp (L2.pe_callS (E := fun _ _ _ _ => True) F hr hg hm hk hb (fun σ pins H s e s' I h => (show False from h).elim) ha hdb he hpl) fun σ H Qk ⟨G, ρ, ok, p⟩ => step ok p fun ds G1 H1 vs _ g1 r1 ok1 p1 => by
    refine ⟨G1, ds, ok1.s, r1, ?_⟩
    cases e : f ds with
    | rt x => rw [e] at p1; exact p1
    | rf xs =>
      rw [e] at p1
      exact fun G' H' a us g n h1 h2 q => p1 (upd G' a (.lst us)) H' _ (g.seal n h1 h2) (.lst upd_same (QA.mono (new_same h2) _ _ q))
    | rz z ρ' => exact fun _ _ _ _ _ => trivial
    | _ => rw [e] at p1; exact p1.elim
theorem mn_call0 {k : Nat} {fa : Addr} {fd : FuncData} {ps : List Str} {x : Str} {p pos : Pos} {e : Expr} {es : List Expr} {f : List D → Out} {g : Rho → R (List D)} (F : FnOk X.prog X.w X.K X.mg X.base CX0 k fa fd ps (spM X.K c.ns X.mg f)) (hr : Room k X.A) (hg : Gl X x) (hm : X.mg x = some (.ref fa)) (hk : PySem.W.keepIn X.K (.ref fa) = true) (hb : Binds X.K fd ps [])
    (ha : MA X c W (e :: es) g) (hdb : (x == ("__debug__" : Str)) = false := by decide) (he : starEach (e :: es) X.env = (false, eval e X.env) :: starEach es X.env := by rfl) (hpl : (backTo pos (starEach es X.env)).any (·.1) = false := by rfl) :
    MN X c W (.Call (.Name x p) (e :: es) [] pos) (ncall f g) :=
  PE.imp (L2.pe_callS (E := fun _ _ _ _ => True) F hr hg hm hk hb (fun σ pins H s e s' I h => (show False from h).elim) ha hdb he hpl) fun σ H Qk ⟨G, ρ, ok, p⟩ => stepN ok p fun ds G1 H1 vs _ g1 r1 ok1 p1 => by
    refine ⟨G1, ds, ok1.s, r1, ?_⟩
    cases e : f ds with
    | rt x => rw [e] at p1; exact fun G' H' v g q => p1 G' H' v g q
    | rf xs =>
      rw [e] at p1
      exact fun G' H' a us g n h1 h2 q => p1 G' H' _ g ⟨a, us, rfl, h1, h2, n, q⟩
    | rz z ρ' => exact fun _ _ _ _ _ => trivial
    | _ => rw [e] at p1; exact p1.elim
theorem mss_nox {b : List Stmt} {f : Rho → Out} (h : MSs X.nox c W b f) : MSs X c W b f := PSs.nox h
end
/-- a def that may raise -/
theorem fnOkX {P : Program} {w : World} {K : PySem.W.Frag} {mg : Str → Option Value} {base : Heap} {x qual : Str} {st : Stmt} {f : Addr} {fd : FuncData} {N ps : List Str} {k : Nat} {ns : Sc} {body : Rho → Out} (F : Fun K x qual st f fd) (S : FnScope N ps (defScope st))
    (hb : ∀ (cdv : Value) (A : Around) (outer : List Env) (s : Shared) (H : Hp) (E : XK) (c : Cm), c.ns = ns → Room k (A.deeper (envOfC qual (defScope st) s.heap.objs.size f cdv)) → MSs (cxOf (L2.CX P w) P w K mg base N qual (defScope st) f cdv A outer s H E) c (wm mg fun cls d _ H' => E cls d H') (defBody st) body) :
    FnOk P w K mg base (L2.CX P w) (k + 1) f fd ps (spM K ns mg (fnM ps.length N.length body)) := by
  refine F.okX S (fun vs H Qk E h => ?_) (fun cdv A outer s H vs Qk E hr h => ?_)
  · obtain ⟨G, ds, s, q, h⟩ := h
    unfold fnM at h
    by_cases hl : ds.length = ps.length
    · rw [q.length, hl]
    · rw [if_neg hl] at h; exact h.elim
  · obtain ⟨G, ds, s', q, h⟩ := h
    refine ⟨_, hb cdv A outer s H E ⟨ns, G, H⟩ rfl hr, G, _, start_ok s' q, ?_⟩
    unfold fnM at h
    by_cases hl : ds.length = ps.length
    · rw [if_pos hl] at h
      cases e : body (ds.map .d ++ List.replicate (N.length - ds.length) .no) with
      | nx ρ =>
        rw [e] at h
        exact fun G' H' σ s ok => h G' H' _ ok.e .non
      | rt x => rw [e] at h; exact fun G' H' v g q => h G' H' v g q
      | rf x => rw [e] at h; exact fun G' H' a us g n h1 h2 q => h G' H' a us g n h1 h2 q
      | rz z ρ => rw [e] at h; exact fun G' H' σ s ok C hC => h G' H' ok.e C hC
      | bk ρ => rw [e] at h; exact h.elim
      | ct ρ => rw [e] at h; exact h.elim
      | bad => rw [e] at h; exact h.elim
    · rw [if_neg hl] at h; exact h.elim
end M

/-! the refusal that a def got, its class told -/
namespace M
open PySem PySem.Spec PyProof.Rows L2
section
variable {X : Cx}
/-- isinstance(e, c) where e's object is pinned -/
theorem call_isP {a D : Addr} {oe : Obj} (hp : (a, oe) ∈ X.pn) (C : ExcC X.K D) (hz : Zc (.ref D) none oe) (hf : ∃ vs, oe.data = .fields vs) : CallR X (.builtin "isinstance") (rIsE X.K D a) := fun pins s σ H xs us Q I r h => by
  obtain ⟨cc, cv, b, rfl, hcv, e, q⟩ := h
  obtain ⟨u1, u2, rfl, ra, rc⟩ := Vals.two r
  cases ra
  obtain rfl := hcv _ rc
  have hget := (I.pin (a, oe) (List.mem_append_left _ hp)).1
  obtain ⟨vs, hv⟩ := hf
  have J : PySem.W.InstAt s.heap a oe D none := by
    obtain ⟨oc, od, oda, osl⟩ := oe
    have h1 : oc = .ref D := hz.1
    have h2 : od = none := hz.2
    have h3 : oda = .fields vs := hv
    subst h1 h2 h3
    exact ⟨hget, rfl, rfl, trivial⟩
  exact PySem.W.kia_one (PySem.W.handS_kitx_exc C.hg C.hk C.hs C.hd C.ha C.hn C.ht C.hm) I.kIn J e (fun z => nomatch z) fun tk => ⟨.bl b, H, I.kept (t' := tk) fun _ _ z => z, rfl, q⟩
/-- l.count(x), flat -/
def rCountF (K : PySem.W.Frag) : V → List V → Hp → VK → Prop := fun x xs H Q => ∃ (a : Addr) (ys : List V) (y : V), x = V.ref a ∧ xs = [y] ∧ SqL K H a ys ∧ flatV y = true ∧ ys.all flatV = true ∧ Q (.int ((ys.filter fun z => eqV z y).length : Nat)) H
theorem count_eq {y : V} : ∀ {ys : List V} {us : List Value}, Vals ys us → ys.all flatV = true → us.countP (eqU y) = (ys.filter fun z => eqV z y).length
  | _, _, .nil, _ => rfl
  | z :: ys, u :: us, .cons r t, f => by
    rw [List.all_cons, Bool.and_eq_true] at f
    have ih := count_eq (y := y) t f.2
    rw [List.countP_cons, List.filter_cons, ih, eqU_of r f.1]
    cases eqV z y <;> simp
theorem mt_countF : MtR X "list.count" (rCountF X.K) := fun pins s σ H x xs v us Q I rx rxs h => by
  obtain ⟨a, ys, y, rfl, rfl, hs, fy, fys, q⟩ := h
  cases rx
  obtain ⟨u, rfl, ru⟩ := Vals.one rxs
  obtain ⟨its, rv, ⟨⟨cls, dd, data, sl⟩, n, ho, hc, hdn, hd⟩, hlen⟩ := I.list hs
  simp only at hc hd
  subst hc hd
  refine call_meets PySem.F.slot_list_count ⟨_, ho, rfl⟩ PySem.F.entry_list_count (PySem.F.args_list_count_2 _ _) (SeqAt.list_countAt a its.toArray n dd sl u (eqU y)) ⟨ho, fun w hw => mem_eqAt ru fy rv fys w (by simpa using hw), ?_⟩
  have ec := count_eq (y := y) rv fys
  refine ⟨.int ((ys.filter fun z => eqV z y).length : Nat), H, I.tok _, ⟨s.toks, ?_⟩, q⟩
  show Value.int ((its.toArray.toList.countP (eqU y) : Nat) : Int) s.toks = Value.int (((ys.filter fun z => eqV z y).length : Nat) : Int) s.toks
  rw [← ec]
end
/-- the names, and what is told of each -/
def kindN : List Str := ["NoBack", "NoNumber", "NoPlate", "NoRow", "NoText", "NoWheels"]
def kindT : List Str := ["no back", "no number", "no plate", "no row", "no text", "no wheels"]
/-- the class at D is the j-th of the six -/
structure ClsJ (K : PySem.W.Frag) (mg : Str → Option Value) (D : Addr) (j : Nat) : Prop where
  c : ExcC K D
  six : ∀ i, i < 6 → ∃ C, mg (kindN.getD i "") = some (.ref C) ∧ PySem.W.kitOne K (.ref D) (.ref C) = some (decide (i = j))
  ve : PySem.W.kitOne K (.ref D) (.type "ValueError") = some true
  lt : j < 6
theorem isiR {K : PySem.W.Frag} {D a C : Addr} {σ : L2.St} {H : Hp} {Q : VK} {b : Bool} (h0 : σ[0]? = some (some (.ref a))) (hk : PySem.W.kitOne K (.ref D) (.ref C) = some b) (q : Q (.bl b) H) : tCB (rIsE K D a) (tCons (tVar 0) (tCons (tC (V.ref C)) tNil)) σ H Q :=
  ⟨.ref a, h0, .ref C, .ref C, b, rfl, fun u r => r, hk, q⟩
theorem bt_ValueError : bootBuiltins "ValueError" = some (.type "ValueError") := by decide +kernel
def strC (x : Str) (p : Pos) : Expr := .Constant (.str x) 0 p
section
variable {X : Cx} {a D : Addr} {oe : Obj} {j : Nat}
theorem pe_isJ (hp : (a, oe) ∈ X.pn) (J : ClsJ X.K X.mg D j) (hz : Zc (.ref D) none oe) (hf : ∃ vs, oe.data = .fields vs) {p r s q : Pos} (h0 : PE X (.Name "kept" q) (tVar 0)) {C : Addr} {x : Str} (hg : X.mg x = some (.ref C)) (gi : Gl X "isinstance") (zi : X.mg "isinstance" = none) (gx : Gl X x) (hd : (x == ("__debug__" : Str)) = false)
    (he : starEach [.Name "kept" q, .Name x r] X.env = (false, eval (.Name "kept" q) X.env) :: starEach [.Name x r] X.env := by rfl) (hpl : (backTo s (starEach [.Name x r] X.env)).any (·.1) = false := by rfl) (h2 : starEach [.Name x r] X.env = (false, eval (.Name x r) X.env) :: starEach [] X.env := by rfl) :
    PE X (.Call (.Name "isinstance" p) [.Name "kept" q, .Name x r] [] s) (tCB (rIsE X.K D a) (tCons (tVar 0) (tCons (tC (V.ref C)) tNil))) :=
  pe_callB (call_isP hp J.c hz hf) gi zi bt_isinstance (pa_cons h0 (pa_cons (pe_glob (v := .ref C) gx hg rfl hd) pa_nil h2) he) (by decide) (by decide) he hpl
/-- what is left of _law_class's reading: the slots kept, kinds -/
theorem class_read {K : PySem.W.Frag} {mg : Str → Option Value} (J : ClsJ K mg D j) {C0 C1 C2 C3 C4 C5 : Addr} (g0 : mg "NoBack" = some (.ref C0)) (g1 : mg "NoNumber" = some (.ref C1)) (g2 : mg "NoPlate" = some (.ref C2)) (g3 : mg "NoRow" = some (.ref C3)) (g4 : mg "NoText" = some (.ref C4)) (g5 : mg "NoWheels" = some (.ref C5)) :
    PySem.W.kitOne K (.ref D) (.ref C0) = some (decide (0 = j)) ∧ PySem.W.kitOne K (.ref D) (.ref C1) = some (decide (1 = j)) ∧ PySem.W.kitOne K (.ref D) (.ref C2) = some (decide (2 = j)) ∧ PySem.W.kitOne K (.ref D) (.ref C3) = some (decide (3 = j)) ∧ PySem.W.kitOne K (.ref D) (.ref C4) = some (decide (4 = j)) ∧ PySem.W.kitOne K (.ref D) (.ref C5) = some (decide (5 = j)) := by
  have key : ∀ i, i < 6 → ∀ C, mg (kindN.getD i "") = some (.ref C) → PySem.W.kitOne K (.ref D) (.ref C) = some (decide (i = j)) := fun i hi C hC => by
    obtain ⟨C', h1, h2⟩ := J.six i hi
    rw [h1] at hC
    cases hC
    exact h2
  exact ⟨key 0 (by decide) C0 g0, key 1 (by decide) C1 g1, key 2 (by decide) C2 g2, key 3 (by decide) C3 g3, key 4 (by decide) C4 g4, key 5 (by decide) C5 g5⟩
def kindsV (j : Nat) : List V := [.bl (decide (0 = j)), .bl (decide (1 = j)), .bl (decide (2 = j)), .bl (decide (3 = j)), .bl (decide (4 = j)), .bl (decide (5 = j))]
theorem kinds_facts (h : j < 6) : (kindsV j).all flatV = true ∧ ((kindsV j).filter fun z => eqV z (.bl true)).length = 1 ∧ (kindsV j)[j]? = some (.bl true) ∧ ∀ (m : Nat) (z : V), m < j → (kindsV j)[m]? = some z → eqV z (.bl true) = false := by
  have : j = 0 ∨ j = 1 ∨ j = 2 ∨ j = 3 ∨ j = 4 ∨ j = 5 := by omega
  rcases this with rfl | rfl | rfl | rfl | rfl | rfl <;> refine ⟨by decide, by decide, by decide, fun m z hm hz => ?_⟩
  · omega
  all_goals (
    have hm' : m = 0 ∨ m = 1 ∨ m = 2 ∨ m = 3 ∨ m = 4 := by omega
    rcases hm' with rfl | rfl | rfl | rfl | rfl <;> first | omega | (simp [kindsV] at hz; subst hz; rfl))
end
end M

/-! a def called within an except suite, its promise told of the very exception -/
namespace M
open PySem PySem.Spec PyProof.Rows L2
theorem run_ofP {CX : CXT} {P : Program} {w : World} {K : PySem.W.Frag} {mg : Str → Option Value} {base : Heap} {k : Nat} {f : Addr} {name qual : Str} {params : Arguments} {body : List Stmt} {scope : Scope} {dV kV doc pm cdv ct oc : Value} {an od : Option Addr} {osl : Array (Option Value)} {N ps : List Str}
    (hlk : K.lookup f = some ⟨oc, od, .func (PySem.W.fnOf name qual params body scope dV kV doc pm an cdv ct), osl⟩) (hcode : PySem.W.codeIn K cdv qual = true) (S : FnScope N ps scope) {A : Around} {outer : List Env} {s : Shared} {H : Hp} {args : Args} {us : List Value} {vs : List V} {Q : VK} {E : XK} {p : Addr × Obj}
    (hroom : L2H.RoomH (k + 1) A) (hpin : L2H.PinOk outer H s p) (e0 : Env0 P w K mg base A outer s H) (hbind : BindsTo s (PySem.W.fnOf name qual params body scope dV kV doc pm an cdv ct) args (ps.zip us)) (rv : Vals vs us) (hlen : vs.length = ps.length)
    (hbody : L2H.RoomH k (A.deeper (envOfC qual scope s.heap.objs.size f cdv)) → ∃ t, PSs (L2H.cxH CX P w K mg base N qual scope f cdv A outer s H E p) body t ∧ t { nx := fun _ H' => Q .non H', rt := Q } (L2.start N vs) H) :
    codeAny (model P w) A (.call (.ref f) args) (CR CX outer P w H s Q E) s := by
  have kin : K.In s.heap := e0.mod.kin.keeps fun b o z => (e0.bs b o z).1
  have nl : s.heap.NoLimit := e0.mod.nolimit.keeps fun b o z => (e0.bs b o z).1
  have kinds : ∀ y ∈ ps.zip us, scope.names.lookup y.1 = some .local ∨ (scope.names.lookup y.1 = some .cell ∧ ((cellsFrom (s.heap.objs.size + 1) scope.names []).lookup y.1).isSome = true) := fun ⟨n, v⟩ hy =>
    (S.par n (List.of_mem_zip hy).1).elim .inl fun q => .inr ⟨q, PySem.W.cellsFrom_some _ _ _ (.inl q)⟩
  refine codeAny_call_function hroom.depth (kin _ _ hlk) rfl S.co S.gen rfl (PySem.W.codeRec_of kin hcode) (hbind _ _ _ _ (wpAny_newFunctionEnv_cells S.kind kinds fun env he s1 x => ?_))
  subst he
  obtain ⟨t, ht, hq⟩ := hbody (hroom.deeper _)
  refine ⟨nl.keeps x.toInCall.keep, codeAny_func (wpAny_mono (ht.run [] s1 _ H _ (L2H.inv_startH S hpin e0 hlen rv x) hq) (fun fl s2 h2 => ?_) fun _ _ z => z)⟩
  cases fl with
  | ret u =>
    obtain ⟨v, σ2, H2, J, rel, hQ⟩ := h2
    exact ⟨v, H2, J.os, J.bare, J.base, J.hok, rel, hQ⟩
  | next =>
    obtain ⟨σ2, H2, J, hQ⟩ := h2
    exact ⟨V.non, H2, J.os, J.bare, J.base, J.hok, rfl, hQ⟩
  | brk => exact h2.choose_spec.choose_spec.2.elim
  | cont => exact h2.choose_spec.choose_spec.2.elim
/-- g(e), e in slot i the exception that the suite holds -/
theorem pe_pinned {X : Cx} {a f : Addr} {oe : Obj} {k i : Nat} {x y name qual : Str} {params : Arguments} {body : List Stmt} {scope : Scope} {dV kV doc pm cdv ct oc : Value} {an od : Option Addr} {osl : Array (Option Value)} {N : List Str} {n : Str} {p q pos : Pos} {R : VK → Hp → Prop}
    (hp : (a, oe) ∈ X.pn) (hroom : L2H.RoomH (k + 1) X.A) (hg : Gl X x) (hm : X.mg x = some (.ref f)) (hk : PySem.W.keepIn X.K (.ref f) = true) (hlk : X.K.lookup f = some ⟨oc, od, .func (PySem.W.fnOf name qual params body scope dV kV doc pm an cdv ct), osl⟩) (hcode : PySem.W.codeIn X.K cdv qual = true) (S : FnScope N [n] scope)
    (hb : L2.Binds X.K (PySem.W.fnOf name qual params body scope dV kV doc pm an cdv ct) [n] []) (he : PE X (.Name y q) (tVar i))
    (hbody : ∀ (s : Shared) (H : Hp) (Q : VK), R Q H → L2H.RoomH k (X.A.deeper (envOfC qual scope s.heap.objs.size f cdv)) → ∃ t, PSs (L2H.cxH CX0 X.prog X.w X.K X.mg X.base N qual scope f cdv X.A X.stack s H E0 (a, oe)) body t ∧ t { nx := fun _ H' => Q .non H', rt := Q } (L2.start N [.ref a]) H)
    (hdb : (x == ("__debug__" : Str)) = false := by decide) (h1 : starEach [.Name y q] X.env = (false, eval (.Name y q) X.env) :: starEach [] X.env := by rfl) (hpl : (backTo pos (starEach [] X.env)).any (·.1) = false := by rfl) :
    PE X (.Call (.Name x p) [.Name y q] [] pos) (fun σ H Q => σ[i]? = some (some (.ref a)) ∧ R Q H) := ⟨fun pins s σ H Q I h => by
  obtain ⟨h0, hR⟩ := h
  have ha : PA X [.Name y q] (tCons (tVar i) tNil) := pa_cons he pa_nil h1
  refine wpAny_Call_Name_kw (ld_glob I hg hm ?_ hdb)
  refine PySem.W.callWith_K (h₀ := X.base) I.ok.mod.kin hk (thn (ha.run pos pins s σ H (fun vs H1 => vs = [V.ref a] ∧ H1 = H) I ⟨.ref a, h0, rfl, rfl⟩) fun us s1 ⟨vs, H1, I1, r, ev, eH⟩ => ⟨I1.kIn, ?_⟩) h1 hpl
  subst ev eH
  obtain ⟨u, rfl, ru⟩ := Vals.one r
  cases ru
  have P1 := I1.pin (a, oe) (List.mem_append_left _ hp)
  have hpin : L2H.PinOk X.stack H1 s1 (a, oe) := ⟨P1.1, P1.2.1, fun hx => (List.mem_cons.mp (I1.stkSub a hx)).elim P1.2.2.1 P1.2.2.2.1, P1.2.2.2.2⟩
  have b := hb s1 [.ref a] I1.kIn rfl
  refine wpAny_call (codeAny_mono (run_ofP (CX := CX0) (E := E0) (Q := Q) (vs := [V.ref a]) (us := [Value.ref a]) hlk hcode S hroom hpin I1.env0 b (.cons rfl .nil) rfl (hbody s1 H1 Q hR)) fun r s' hq => ?_)
  cases r with
  | error e => exact (show False from hq).elim
  | ok fl =>
    cases fl with
    | ret u => exact I1.after hq
    | next => exact hq.elim
    | brk => exact hq.elim
    | cont => exact hq.elim⟩
end M

/-! x(lambda: ..), the heap behind the lambda told -/
namespace M
open PySem PySem.Spec PyProof.Rows L2 LamX
/-- the heap behind a lambda that was made: as it was, or its code object in the maker's table -/
theorem among_line {pos p' : Pos} {c cv : Value} (l : List Value) (h : TriplesOk l) (hc : codeAmong p' (l ++ [rawInt pos.line, rawInt pos.col, c]) = some cv) : codeAmong p' l = some cv ∨ (cv = c ∧ p'.line = pos.line) :=
  (NdefX.among_app2 l h hc).imp_right fun z => ⟨z.1, z.2.1.symm⟩
def Grow (H H1 : Hp) (P : Addr) (q : Str) : Prop := H1 = H ∨ ∃ ps more c', H P = some (.tbl ps) ∧ H c' = none ∧ H1 = upd (upd H P (.tbl (ps ++ more))) c' (CodeO c' q) ∧ TabQ H1 P
theorem Grow.ext {H H1 : Hp} {P : Addr} {q : Str} (g : Grow H H1 P q) : ExtN H H1 := by
  rcases g with rfl | ⟨ps, more, c', h1, h2, rfl, _⟩
  · exact ExtN.refl _
  · exact fun b o e n => by
      have nb : b ≠ P := fun z => n ps (Option.some.inj (e.symm.trans (z ▸ h1)))
      rw [upd_ne (ne_of_none e h2), upd_ne nb]
      exact e
theorem Grow.tab {H H1 : Hp} {P P' : Addr} {q : Str} (g : Grow H H1 P q) (t : TabQ H P') : TabQ H1 P' := by
  have ge := g.ext
  rcases g with rfl | ⟨ps, more, c', h1, h2, e, h3⟩
  · exact t
  · by_cases hP : P' = P
    · rw [hP]; exact h3
    · obtain ⟨qs, t1, t2, t3⟩ := t
      refine ⟨qs, ?_, t2, fun pos cv hc => ?_⟩
      · rw [e, upd_ne (ne_of_none t1 h2), upd_ne hP]
        exact t1
      · obtain ⟨d, d1, d2⟩ := t3 pos cv hc
        exact ⟨d, d1, ge _ _ d2 codeO_ne⟩
section
variable {X : Cx} {pins : List (Addr × Obj)} {σ : L2.St} {H : Hp} {s : Shared}
theorem lam_made {c P : Addr} {params : Arguments} {body : Expr} {scope : Scope} {pos : Pos} {E : Value → Shared → Prop} {Q : Value → Shared → Prop} (I : Inv X pins σ H s) (TB : TabB X.base X.mg c P) (hcode : X.env.code = .ref c) (hT : TabQ H P) (hqo : qof pos = X.env.qual ++ "<lambda>")
    (hdef : defaultsOf params X.env = ([], [])) (hfree : ∀ y ∈ scope.names, y.2 = .free → ∃ c, X.env.cells.lookup y.1 = some c)
    (h : ∀ (f c' : Addr) (pm ctv : Value) (H1 : Hp) (s' : Shared), Inv X pins σ H1 s' → Grow H H1 P (X.env.qual ++ "<lambda>") →
      s'.heap.get? f = some (PySem.W.kla_obj "<lambda>" (X.env.qual ++ "<lambda>") params body scope (cloFrom X.env.cells scope.names []) pm c' ctv) → H1 f = none → f ∉ frs X.stack → H1 c' = some (CodeO c' (X.env.qual ++ "<lambda>")) → Q (.ref f) s') :
    wpAny (model X.prog X.w) X.A (eval (.Lambda params body scope pos) X.env) Q E s := by
  obtain ⟨ps, hP, ht, ha⟩ := hT
  have outF : ∀ f, s.heap.objs.size ≤ f → f ∉ frs X.stack := fun f old m => (List.mem_cons.mp (I.stkSub f m)).elim (fun e => Nat.not_lt.mpr old (e ▸ I.lt)) (I.nofs old)
  have bP := TB.bm.keeps I.bk
  have atP : s.heap.get? P = some { cls := .none, data := .fields ps } := I.hok P _ hP
  refine PySem.W.kla_eval hdef ?_
  cases hc : codeAmong pos ps.toList with
  | some cv =>
    obtain ⟨c', e, hco⟩ := ha pos cv hc
    rw [hqo] at hco
    subst e
    refine PySem.W.kla_makeFunctionHit (mg := X.mg) (c := c) (P := P) (ps := ps) (closure_ok hfree) I.ok.glob (I.mod.glob.keeps I.bk) hcode (TB.code.keeps I.bk) atP ht hc bP fun ctv h' tk hx hsz => ?_
    exact h h'.objs.size c' ((X.mg "__name__").getD .none) ctv H _ (I.kept (t' := tk) fun b o e => Heap.get?_push_of_some _ (hx b o e)) (.inl rfl) (Heap.get?_push_size _ rfl) (I.hok.fresh hsz) (outF _ hsz) hco
  | none =>
    refine PySem.W.kla_makeFunction (mg := X.mg) (c := c) (P := P) (ps := ps) (closure_ok hfree) I.ok.glob (I.mod.glob.keeps I.bk) hcode (TB.code.keeps I.bk) atP ht hc TB.gP bP fun c' ctv h' tk hx hge hlt hrec htb => ?_
    have nC : H c' = none := I.hok.fresh hge
    have hsz := Nat.le_trans hge (Nat.le_of_lt hlt)
    obtain ⟨c2, oc, vs, t, same, hoc, hd, hv⟩ := hrec
    obtain rfl : c' = c2 := Value.ref.inj same
    have J := inv_table (t' := tk) (q := X.env.qual ++ "<lambda>") (more := #[rawInt pos.line, rawInt pos.col, .ref c']) (h' := h'.push (PySem.W.kla_obj "<lambda>" (X.env.qual ++ "<lambda>") params body scope (cloFrom X.env.cells scope.names []) ((X.mg "__name__").getD .none) c' ctv)) I hP (fun b o hb e => Heap.get?_push_of_some _ (hx b o hb e)) (Heap.get?_push_of_some _ htb) hge ⟨oc, vs, t, Heap.get?_push_of_some _ hoc, hd, hv⟩
    have keepN : ExtN H (upd (upd H P (.tbl (ps ++ #[rawInt pos.line, rawInt pos.col, .ref c']))) c' (CodeO c' (X.env.qual ++ "<lambda>"))) := fun b o e n => by
      have nb : b ≠ P := fun z => n ps (Option.some.inj (e.symm.trans (z ▸ hP)))
      rw [upd_ne (ne_of_none e nC), upd_ne nb]
      exact e
    have lst : (ps ++ #[rawInt pos.line, rawInt pos.col, .ref c']).toList = ps.toList ++ [rawInt pos.line, rawInt pos.col, .ref c'] := by simp
    have tab : TabQ (upd (upd H P (.tbl (ps ++ #[rawInt pos.line, rawInt pos.col, .ref c']))) c' (CodeO c' (X.env.qual ++ "<lambda>"))) P := by
      refine ⟨_, by rw [upd_ne (ne_of_none hP nC), upd_same], by rw [lst]; exact PySem.TriplesOk_snoc _ _ _ _ ht, fun p' cv hcv => ?_⟩
      rw [lst] at hcv
      rcases among_line _ ht hcv with z | ⟨z, zl⟩
      · obtain ⟨d, d1, d2⟩ := ha p' cv z
        exact ⟨d, d1, keepN _ _ d2 codeO_ne⟩
      · have : qof p' = X.env.qual ++ "<lambda>" := by
          rw [← hqo]
          unfold qof
          rw [zl]
        rw [this]
        exact ⟨c', z, upd_same⟩
    refine h h'.objs.size c' ((X.mg "__name__").getD .none) ctv _ _ J (.inr ⟨ps, _, c', hP, nC, rfl, tab⟩) (Heap.get?_push_size _ rfl) ?_ (outF _ hsz) upd_same
    have hlt2 : P < h'.objs.size := Nat.lt_of_lt_of_le (Heap.lt_size atP) hsz
    rw [upd_ne (Nat.ne_of_gt hlt), upd_ne (Nat.ne_of_gt hlt2)]
    exact I.hok.fresh hsz
/-- a lambda that takes nothing -/
abbrev NoArgs (params : Arguments) (body : Expr) (scope : Scope) : Prop := ∀ (q : Str) (cl : List (Str × Addr)) (pm cv ctv : Value), bindArgs (PySem.W.kla_fn "<lambda>" q params body scope cl pm cv ctv) ⟨[], []⟩ = pure []
/-- x, at g, is a def of one parameter a -/
structure Fun1 (X : Cx) (x a : Str) (g : Addr) (pg : Arguments) (bg : List Stmt) (sg : Scope) (cdv oc : Value) (od : Option Addr) (osl : Array (Option Value)) (dV kV doc pm ct : Value) (an : Option Addr) (Ng : List Str) : Prop where
  obj : X.K.lookup g = some ⟨oc, od, .func (PySem.W.fnOf x x pg bg sg dV kV doc pm an cdv ct), osl⟩
  code : PySem.W.codeIn X.K cdv x = true
  binds : L2.Binds X.K (PySem.W.fnOf x x pg bg sg dV kV doc pm an cdv ct) [a] []
  scope : FnScope Ng [a] sg
  first : Ng[0]? = some a
  seen : Vis sg a
/-- what is wished of x(lambda: ..) -/
def tLamM (P : Addr) (q : Str) (TT : (XK → Hp → VK → Prop) → Hp → VK → Prop) (t : XK → TE) : TE := fun σ H Q => TabQ H P ∧ ∀ H1, Grow H H1 P q → TT (fun E H' Q' => t E σ H' Q') H1 Q
theorem pe_lamM {TT : (XK → Hp → VK → Prop) → Hp → VK → Prop} {x a : Str} {g c P : Addr} {k : Nat} {pg : Arguments} {bg : List Stmt} {sg : Scope} {dV kV doc pm cdv ct oc : Value} {an od : Option Addr} {osl : Array (Option Value)} {Ng : List Str}
    {t : XK → TE} {params : Arguments} {body : Expr} {scope : Scope} {p lpos pos : Pos} (hg : Gl X x) (hm : X.mg x = some (.ref g)) (hk : PySem.W.keepIn X.K (.ref g) = true) (F : Fun1 X x a g pg bg sg cdv oc od osl dV kV doc pm ct an Ng)
    (hG : GivesTo X Ng x sg g cdv bg a (X.env.qual ++ "<lambda>") TT) (TB : TabB X.base X.mg c P) (hcode : X.env.code = .ref c) (hqo : qof lpos = X.env.qual ++ "<lambda>") (hr : Room (k + 2) X.A) (L : LamS X.env.scope scope) (hdef : defaultsOf params X.env = ([], []))
    (hbind : NoArgs params body scope)
    (hbody : ∀ (A : Around) (outer : List Env) (s : Shared) (H : Hp) (E : XK) (f c' : Addr), Room k (A.deeper (lamEnv X scope s.heap.objs.size f c')) → PE (lamCx X A outer s H E scope f c') body (t E))
    (hdb : (x == ("__debug__" : Str)) = false := by decide) (hd : (a == ("__debug__" : Str)) = false := by decide) (hcd : (a == ("__classdict__" : Str)) = false := by decide) :
    PE X (.Call (.Name x p) [.Lambda params body scope lpos] [] pos) (tLamM P (X.env.qual ++ "<lambda>") TT t) := ⟨fun pins s σ H Q I h => by
  obtain ⟨hT, hgo⟩ := h
  refine wpAny_Call_Name_kw (ld_glob I hg hm (PySem.W.callWith_K (h₀ := X.base) I.ok.mod.kin hk ?_ (by rfl) (by rfl)) hdb)
  show wpAny _ _ (spliced ((false, eval (.Lambda params body scope lpos) X.env) :: backTo pos (starEach [] X.env))) _ _ s
  refine Calls.spliced_cons (lam_made I TB hcode hT hqo hdef (L.has I.ok) fun f c' pm' ctv H1 s' J grow hf hfn hfr hco => Calls.spliced_nil ⟨J.kIn, ?_⟩)
  have run : codeAny (model X.prog X.w) X.A (.call (.ref g) ⟨[.ref f], []⟩) (CR C8.CX0 X.stack X.prog X.w H1 s' Q C8.E0) s' := by
    refine run_ofS (N := Ng) (ps := [a]) (us := [.ref f]) (vs := [.ref f]) F.obj F.code F.scope hr J.env0 (F.binds s' [.ref f] J.kIn rfl) (.cons rfl .nil) rfl fun hr1 => ?_
    obtain ⟨t1, ht1, hq1⟩ := hG f c' s' H1 Q (fun E H' Q' => t E σ H' Q') (fun W pn xe E p1 p2 tk hW => pe_act (i := 0) J L hf hfn hfr (hbind _ _ _ _ _) tk hW hr1 (fun A outer s H hr2 => hbody A outer s H E f c' hr2) F.first F.seen hd hcd) hco (hgo H1 grow)
    exact ⟨t1, ht1.nox, hq1⟩
  refine wpAny_call (codeAny_mono run fun r s2 hq => ?_)
  cases r with
  | error e => exact (show False from hq).elim
  | ok fl =>
    cases fl with
    | ret u => exact J.after hq
    | next => exact hq.elim
    | brk => exact hq.elim
    | cont => exact hq.elim⟩
end
end M

/-! told(lambda: ..): what was answered, or the name of the refusal -/
namespace M
open PySem PySem.Spec PyProof.Rows L2 LamX
theorem Gr.grow {G H H1 : Hp} {P : Addr} {q : Str} (s : Sub G H) (g : Grow H H1 P q) : Gr G H G H1 :=
  ⟨Same.refl G, ⟨g.ext, fun _ t => g.tab t⟩, s.ex ⟨g.ext, fun _ t => g.tab t⟩, fun _ _ _ _ h => h⟩
theorem Gr.sameH {G H H' : Hp} (s : Sub G H) (e : Same H H') : Gr G H G H' := ⟨Same.refl G, .of e, s.ex (.of e), fun _ _ _ _ h => h⟩
/-- what is wished of the lambda's body -/
def TTc (K : PySem.W.Frag) (mg : Str → Option Value) (CS : Addr) : (XK → Hp → VK → Prop) → Hp → VK → Prop := fun tl H Q =>
  tl (fun cls d H' => ∃ D j, cls = .ref D ∧ d = none ∧ ClsJ K mg D j ∧ PySem.W.exmOne K cls (.ref CS) = some true ∧ ∀ H'', Same H' H'' → Q (.str (kindT.getD j "")) H'') H Q
def toldE (zs : List Str) (f : Rho → R D) : Rho → R D := fun ρ => match f ρ with
  | .ok d => .ok d
  | .rz z => if z ∈ zs then .ok (.str (kindT.getD (kindN.idxOf z) "")) else .bad
  | .bad => .bad
/-- the room of a suite -/
theorem roomS {k : Nat} {A : Around} {env : Env} {a : Addr} (r : Room (k + 1) A) : L2H.RoomH k ((A.deeper env).mark (some (.ref a))) :=
  ⟨by have := r.dp; show A.depth + 1 + 3 * k + 5 < recursionLimit; omega, by have := r.un; show A.units + 3 + 16 * k + 200 < cLine; omega⟩
section
variable {X : Cx}
theorem told_gv {sg : Scope} {g CS fC : Addr} {cdg : Value} {q : Str} {p1 p2 p3 p4 p5 p6 p7 p8 p9 p10 : Pos} {params : Arguments} {body : List Stmt} {scope : Scope} {dV kV doc pm cdv ct oc : Value} {an od : Option Addr} {osl : Array (Option Value)} {N : List Str}
    (hge : sg.names.lookup ("TrackError" : Str) = some .globalImplicit) (hgc : sg.names.lookup ("_law_class" : Str) = some .globalImplicit) (hle : sg.names.lookup ("e" : Str) = some .local) (hme : X.mg "TrackError" = some (.ref CS))
    (hmc : X.mg "_law_class" = some (.ref fC)) (hkc : PySem.W.keepIn X.K (.ref fC) = true) (hlk : X.K.lookup fC = some ⟨oc, od, .func (PySem.W.fnOf "_law_class" "_law_class" params body scope dV kV doc pm an cdv ct), osl⟩) (hcode : PySem.W.codeIn X.K cdv "_law_class" = true) (S : FnScope N ["kept"] scope)
    (hb : L2.Binds X.K (PySem.W.fnOf "_law_class" "_law_class" params body scope dV kV doc pm an cdv ct) ["kept"] []) (hr : Room 3 X.A)
    (hbody : ∀ (a : Addr) (oe : Obj) (Dd : Addr) (j : Nat) (A : Around) (outer : List Env) (s : Shared) (H : Hp) (Q : VK), ClsJ X.K X.mg Dd j → Zc (.ref Dd) none oe → (∃ vs, oe.data = .fields vs) → (∀ H', Same H H' → Q (.str (kindT.getD j "")) H') → L2H.RoomH 1 (A.deeper (envOfC "_law_class" scope s.heap.objs.size fC cdv)) →
      ∃ t, PSs (L2H.cxH CX0 X.prog X.w X.K X.mg X.base N "_law_class" scope fC cdv A outer s H E0 (a, oe)) body t ∧ t { nx := fun _ H' => Q .non H', rt := Q } (L2.start N [.ref a]) H) :
    GivesTo X ["deed", "e"] "_law_told" sg g cdg [.Try [.Return (some (.Call (.Name "deed" p1) [] [] p2)) p3] [.ExceptHandler (some (.Name "TrackError" p4)) (some "e") [.Return (some (.Call (.Name "_law_class" p5) [.Name "e" p6] [] p7)) p8] p9] [] [] p10] "deed" q (TTc X.K X.mg CS) := by
  intro f c' s H Q tl act hc h
  have gl1 : Gl (cxOf C8.CX0 X.prog X.w X.K X.mg X.base ["deed", "e"] "_law_told" sg g cdg X.A X.stack s H C8.E0).nox "TrackError" := hge
  have nd : (["deed", "e"] : List Str).Nodup := by decide
  refine ⟨_, pss_one (L2.ps_try_as (X := (cxOf C8.CX0 X.prog X.w X.K X.mg X.base ["deed", "e"] "_law_told" sg g cdg X.A X.stack s H C8.E0).nox) (i := 1) (n := "e") (c := .ref CS)
      (tb := fun W D σ H => ∃ Ech : XK, (∀ cls d σ' H', Ech cls d H' → W cls d σ' H') ∧ σ[0]? = some (some (.ref f)) ∧ H c' = some (CodeO c' q) ∧ tl Ech H D.rt)
      (ts := fun a cls d D σ H => (σ.length = 2 → σ[1]? = some (some (.ref a))) ∧ ∃ Dd j, cls = .ref Dd ∧ d = none ∧ ClsJ X.K X.mg Dd j ∧ ∀ H', Same H H' → D.rt (.str (kindT.getD j "")) H')
      rfl rfl nd rfl hle ⟨gl1, by decide, .inl hme⟩ L2.takes0 (fun W pn xe tk _ => ?_) (fun a oe cls d pn hz hf => ?_)), ?_⟩
  · refine ⟨fun pins s' σ H' D I h' => ?_⟩
    obtain ⟨Ech, hW, h1, h2, h3⟩ := h'
    exact (pss_one (ps_ret (pos := p3) (act W pn xe Ech p1 p2 tk hW))).run pins s' σ H' D I ⟨h1, h2, h3⟩
  · have key : PSs ((cxOf C8.CX0 X.prog X.w X.K X.mg X.base ["deed", "e"] "_law_told" sg g cdg X.A X.stack s H C8.E0).nox.suite a ((a, oe) :: pn)) [.Return (some (.Call (.Name "_law_class" p5) [.Name "e" p6] [] p7)) p8] (fun D σ H => σ[1]? = some (some (.ref a)) ∧ ∃ Dd j, cls = .ref Dd ∧ d = none ∧ ClsJ X.K X.mg Dd j ∧ ∀ H', Same H H' → D.rt (.str (kindT.getD j "")) H') := ?key
    exact ⟨fun pins s' σ H' D I h' => key.run pins s' σ H' D I ⟨h'.1 I.len, h'.2⟩⟩
    refine pss_one (ps_ret (pe_pinned (X := (cxOf C8.CX0 X.prog X.w X.K X.mg X.base ["deed", "e"] "_law_told" sg g cdg X.A X.stack s H C8.E0).nox.suite a ((a, oe) :: pn)) (k := 1) (i := 1) (R := fun Qk H => ∃ Dd j, cls = .ref Dd ∧ d = none ∧ ClsJ X.K X.mg Dd j ∧ ∀ H', Same H H' → Qk (.str (kindT.getD j "")) H')
      List.mem_cons_self (roomS hr) hgc hmc hkc hlk hcode S hb (pe_var (i := 1) rfl (.inl hle) (by decide) (by decide)) fun s2 H2 Q2 hR hr2 => ?_))
    obtain ⟨Dd, j, e1, e2, J, hq⟩ := hR
    subst e1 e2
    exact hbody a oe Dd j _ _ s2 H2 Q2 J hz hf hq hr2
  · refine ⟨_, fun cls d σ' H' hE => ?_, rfl, hc, h⟩
    obtain ⟨Dd, j, e1, e2, J, ex, hq⟩ := hE
    refine ⟨true, ex, fun _ a ha => ⟨fun hl => ?_, Dd, j, e1, e2, J, hq⟩, fun z => Bool.noConfusion z⟩
    rw [List.getElem?_set_self (by rw [List.length_set] at hl; omega)]

theorem me_told {c : Cm} {W : WM} (zs : List Str) {CS g cc P : Addr} {k : Nat} {pg : Arguments} {bg : List Stmt} {sg : Scope} {dV kV doc pm cdv ct oc : Value} {an od : Option Addr} {osl : Array (Option Value)} {Ng : List Str}
    {params : Arguments} {body : Expr} {scope : Scope} {fB : Rho → R D} {p lpos pos : Pos} (hg : Gl X "_law_told") (hm : X.mg "_law_told" = some (.ref g)) (hk : PySem.W.keepIn X.K (.ref g) = true)
    (lk : X.K.lookup g = some ⟨oc, od, .func (PySem.W.fnOf "_law_told" "_law_told" pg bg sg dV kV doc pm an cdv ct), osl⟩) (hcg : PySem.W.codeIn X.K cdv "_law_told" = true) (hb : L2.Binds X.K (PySem.W.fnOf "_law_told" "_law_told" pg bg sg dV kV doc pm an cdv ct) ["deed"] []) (Sg : FnScope Ng ["deed"] sg) (hNg : Ng[0]? = some ("deed" : Str)) (hva : Vis sg "deed")
    (hG : GivesTo X Ng "_law_told" sg g cdv bg "deed" (X.env.qual ++ "<lambda>") (TTc X.K X.mg CS)) (hqo : qof lpos = X.env.qual ++ "<lambda>") (TB : TabB X.base X.mg cc P) (hcode : X.env.code = .ref cc) (hT : TabQ c.H0 P) (hr : Room (k + 2) X.A)
    (hz : ∀ z ∈ zs, ∀ C, X.mg z = some (.ref C) → ClsJ X.K X.mg C (kindN.idxOf z) ∧ PySem.W.exmOne X.K (.ref C) (.ref CS) = some true)
    (L : LamS X.env.scope scope) (hdef : defaultsOf params X.env = ([], [])) (hbind : ∀ (q : Str) (cl : List (Str × Addr)) (pm cv ctv : Value), bindArgs (PySem.W.kla_fn "<lambda>" q params body scope cl pm cv ctv) ⟨[], []⟩ = pure [])
    (hbody : ∀ (A : Around) (outer : List Env) (s : Shared) (H : Hp) (E : XK) (f c' : Addr), Room k (A.deeper (lamEnv X scope s.heap.objs.size f c')) → ME (lamCx X A outer s H E scope f c') c (wm X.mg fun cls d _ H' => E cls d H') body fB) :
    ME X c W (.Call (.Name "_law_told" p) [.Lambda params body scope lpos] [] pos) (toldE zs fB) := by
  refine PE.imp (pe_lamM (t := fun E => tR X.K c (wm X.mg fun cls d _ H' => E cls d H') (RelQ X.K c.ns) fB) hg hm hk ⟨lk, hcg, hb, Sg, hNg, hva⟩ hG TB hcode hqo hr L hdef hbind hbody) fun σ H Qk ⟨G, ρ, ok, p⟩ => ?_
  refine ⟨ok.e.h.tabs P hT, fun H1 grow => ?_⟩
  have gr := Gr.grow ok.s grow
  refine ⟨G, ρ, ok.gr gr, ?_⟩
  unfold toldE at p
  cases e : fB ρ with
  | ok d => rw [e] at p; exact fun G' H' v g q => p G' H' v (gr.trans g) q
  | bad => rw [e] at p; exact p
  | rz z =>
    rw [e] at p
    by_cases hzz : z ∈ zs
    · simp only [if_pos hzz] at p
      intro G' H' g C hC
      obtain ⟨J, ex⟩ := hz z hzz C hC
      exact ⟨C, _, rfl, rfl, J, ex, fun H'' sm => p G' H'' _ ((gr.trans g).trans (Gr.sameH g.s sm)) (.str _)⟩
    · simp only [if_neg hzz] at p
      exact p.elim
end
/-- a def that makes lambdas: its table is told -/
def spT (K : PySem.W.Frag) (ns : Sc) (mg : Str → Option Value) (P : Addr) (f : List D → Out) : Sp := fun vs H Qk E => TabQ H P ∧ spM K ns mg f vs H Qk E
theorem fnOkL {Pr : Program} {w : World} {K : PySem.W.Frag} {mg : Str → Option Value} {base : Heap} {k : Nat} {f cc P : Addr} {name qual : Str} {params : Arguments} {bd : List Stmt} {scope : Scope} {dV kV doc pm ct oc : Value} {an od : Option Addr} {osl : Array (Option Value)} {N ps : List Str} {ns : Sc} {body : Rho → Out}
    (lk : K.lookup f = some ⟨oc, od, .func (PySem.W.fnOf name qual params bd scope dV kV doc pm an (.ref cc) ct), osl⟩) (hcd : PySem.W.codeIn K (.ref cc) qual = true) (S : FnScope N ps scope)
    (hb : ∀ (A : Around) (outer : List Env) (s : Shared) (H : Hp) (E : XK) (c : Cm), c.ns = ns → TabQ c.H0 P → Room k (A.deeper (envOfC qual scope s.heap.objs.size f (.ref cc))) → MSs (cxOf CX0 Pr w K mg base N qual scope f (.ref cc) A outer s H E).nox c W0 bd body) :
    FnOk Pr w K mg base CX0 (k + 1) f (PySem.W.fnOf name qual params bd scope dV kV doc pm an (.ref cc) ct) ps (spT K ns mg P (fnM0 ps.length N.length body)) := by
  refine fn_of lk hcd S (fun vs H Qk E h => ?_) (fun A outer s H vs Qk E hr h => ?_)
  · obtain ⟨_, G, ds, s, q, h⟩ := h
    unfold fnM0 fnM at h
    by_cases hl : ds.length = ps.length
    · rw [q.length, hl]
    · rw [if_neg hl] at h; exact h.elim
  · obtain ⟨hT, G, ds, s', q, h⟩ := h
    refine ⟨_, (hb A outer s H E ⟨ns, G, H⟩ rfl hT hr).nox, G, _, start_ok s' q, ?_⟩
    unfold fnM0 fnM at h
    by_cases hl : ds.length = ps.length
    · rw [if_pos hl] at h
      cases e : body (ds.map .d ++ List.replicate (N.length - ds.length) .no) with
      | nx ρ =>
        rw [e] at h
        exact fun G' H' σ s ok => h G' H' _ ok.e .non
      | rt x => rw [e] at h; exact fun G' H' v g q => h G' H' v g q
      | rf x => rw [e] at h; exact fun G' H' a us g n h1 h2 q => h G' H' a us g n h1 h2 q
      | rz z ρ => rw [e] at h; exact h.elim
      | bk ρ => rw [e] at h; exact h.elim
      | ct ρ => rw [e] at h; exact h.elim
      | bad => rw [e] at h; exact h.elim
    · rw [if_neg hl] at h; exact h.elim
end M

namespace M
open PySem PySem.Spec PyProof.Rows L2
theorem ClsJ.six6 {K : PySem.W.Frag} {mg : Str → Option Value} {D : Addr} {j : Nat} (c : ExcC K D) (ve : PySem.W.kitOne K (.ref D) (.type "ValueError") = some true) (lt : j < 6) {C0 C1 C2 C3 C4 C5 : Addr} {b0 b1 b2 b3 b4 b5 : Bool}
    (g0 : mg "NoBack" = some (.ref C0)) (q0 : PySem.W.kitOne K (.ref D) (.ref C0) = some b0) (g1 : mg "NoNumber" = some (.ref C1)) (q1 : PySem.W.kitOne K (.ref D) (.ref C1) = some b1) (g2 : mg "NoPlate" = some (.ref C2)) (q2 : PySem.W.kitOne K (.ref D) (.ref C2) = some b2)
    (g3 : mg "NoRow" = some (.ref C3)) (q3 : PySem.W.kitOne K (.ref D) (.ref C3) = some b3) (g4 : mg "NoText" = some (.ref C4)) (q4 : PySem.W.kitOne K (.ref D) (.ref C4) = some b4) (g5 : mg "NoWheels" = some (.ref C5)) (q5 : PySem.W.kitOne K (.ref D) (.ref C5) = some b5)
    (hb : [b0, b1, b2, b3, b4, b5] = (List.range 6).map fun i => decide (i = j) := by decide) : ClsJ K mg D j := by
  have hh : b0 = decide (0 = j) ∧ b1 = decide (1 = j) ∧ b2 = decide (2 = j) ∧ b3 = decide (3 = j) ∧ b4 = decide (4 = j) ∧ b5 = decide (5 = j) := by
    simpa [List.range, List.range.loop] using hb
  obtain ⟨rfl, rfl, rfl, rfl, rfl, rfl⟩ := hh
  refine ⟨c, fun i hi => ?_, ve, lt⟩
  have : i = 0 ∨ i = 1 ∨ i = 2 ∨ i = 3 ∨ i = 4 ∨ i = 5 := by omega
  rcases this with rfl | rfl | rfl | rfl | rfl | rfl
  · exact ⟨C0, g0, q0⟩
  · exact ⟨C1, g1, q1⟩
  · exact ⟨C2, g2, q2⟩
  · exact ⟨C3, g3, q3⟩
  · exact ⟨C4, g4, q4⟩
  · exact ⟨C5, g5, q5⟩
end M

/-! a tuple display, its object told -/
namespace M
open PySem PySem.Spec PyProof.Rows L2 HT
section
variable {X : Cx} {c : Cm} {W : WM}
def tTupN (t : TA) : TE := fun σ H Q => t σ H fun xs H1 => xs.length ≤ sizeLine ∧ ∀ (o : Obj), o.cls = .type "tuple" → o.dict = none → ∀ p, H1 p = none → Q (.ref p) (upd H1 p (.frz o (.tup xs)))
theorem pe_tupN {es : List Expr} {t : TA} {k : Nat} {pos : Pos} (h : PA X es t) : PE X (.Tuple es k pos) (tTupN t) := by
  constructor
  intro pins s σ H Q I hq
  apply wpAny_Tuple_spliced
  refine thn (h.run pos pins s σ H _ I hq) fun us s1 ⟨xs, H1, I1, r, z, q⟩ => ⟨r.length ▸ z, ?_⟩
  exact Men.cut_laid I1 (o := .frz { cls := .type "tuple", data := .seq us.toArray } (.tup xs)) ⟨Heap.get?_push_size _ rfl, z, us, r, IsTup.new _ _⟩ (q _ rfl rfl)
def tupNE (g : Rho → R (List D)) : Rho → R D := fun ρ => (g ρ).bind fun xs => if xs.length ≤ 1000000 then R.of ((intsOf xs).map fun is => NT is) else .bad
theorem me_tupN {es : List Expr} {k : Nat} {pos : Pos} {g : Rho → R (List D)} (h : MA X c W es g) : ME X c W (.Tuple es k pos) (tupNE g) :=
  PE.imp (pe_tupN h) fun σ H Qk ⟨G, ρ, ok, p⟩ => step ok p fun xs G1 H1 vs _ g1 r1 ok1 p1 => by
    by_cases hl : xs.length ≤ 1000000
    · rw [if_pos hl] at p1
      refine ⟨by rw [r1.length]; exact sz hl, ?_⟩
      cases eb : intsOf xs with
      | none => rw [eb] at p1; exact p1.elim
      | some bs =>
        rw [eb] at p1
        rw [ints_eq eb] at r1
        rw [r1.ints_inv]
        exact newN ok1.s p1
    · rw [if_neg hl] at p1; exact p1.elim
end
end M

/-! stays(lambda: ..): a list is told, changed, and told again -/
namespace M
open PySem PySem.Spec PyProof.Rows L2 LamX
/-- a list that is no slot's is changed -/
theorem Gr.wr0 {G H G' H' : Hp} {a : Addr} {us ws : List V} (g : Gr G H G' H') (ha : H' a = some (.lst us)) (ga : G' a = none) (n : Nw H a) : Gr G H G' (upd H' a (.lst ws)) := by
  have hb : ∀ b o, b ≠ a → H' b = some o → upd H' a (.lst ws) b = some o := fun b o z e => by rw [upd_ne z]; exact e
  have hs : Sub G' (upd H' a (.lst ws)) := fun b o hg => ⟨hb b o (fun z => by subst z; rw [ga] at hg; cases hg) (g.s b o hg).1, (g.s b o hg).2⟩
  refine ⟨g.g, ⟨fun b o e2 ht => hb b o (fun z => by subst z; exact n o e2 ht) (g.h.keep b o e2 ht), fun T t => ?_⟩, hs, g.n⟩
  obtain ⟨ps, t1, t2, t3⟩ := g.h.tabs T t
  refine ⟨ps, hb _ _ (fun z => by rw [z, ha] at t1; cases t1) t1, t2, fun pos cv hc => ?_⟩
  obtain ⟨cc, c1, c2⟩ := t3 pos cv hc
  exact ⟨cc, c1, hb _ _ (fun z => by rw [z, ha] at c2; cases c2) c2⟩
theorem Ok.wr0 {K : PySem.W.Frag} {c : Cm} {G H : Hp} {ρ : Rho} {σ : L2.St} {a : Addr} {us ws : List V} (h : Ok K c G H ρ σ) (ha : H a = some (.lst us)) (ga : G a = none) (n0 : Nw c.H0 a) (hn : ∀ (j : Nat) (ys : List D), ρ[j]? = some (Sl.o ys) → σ[j]? ≠ some (some (V.ref a))) : Ok K c G (upd H a (.lst ws)) ρ σ := by
  have e := h.e.wr0 (ws := ws) ha ga n0
  refine ⟨e.s, e, h.len, fun j x e2 => ?_, h.dj⟩
  have := h.sl j x e2
  cases x with
  | no => trivial
  | d x => exact this
  | o ys =>
    obtain ⟨b, vs, e3, hb, gb, nb, qb⟩ := this
    exact ⟨b, vs, e3, by rw [upd_ne (fun z => hn j ys e2 (by rw [← z]; exact e3))]; exact hb, gb, nb, qb⟩
def tStays (K : PySem.W.Frag) (tl : Hp → VK → Prop) (f c' : Addr) (q : Str) : TS :=
  (tSeq (tAsg (fun σZ HZ Q => σZ[0]? = some (some (V.ref f)) ∧ HZ c' = some (CodeO c' q) ∧ tl HZ Q) (gName 1))
    (tSeq (tIfS (tNot (tB (tCB (rIsi K) (tCons (tVar 1) (tCons (tC (V.ty "list")) tNil))))) (tRet (tC (V.bl false))) tNext)
      (tSeq (tAsg (tCB (fun xs H Q => ∃ p ys, xs = [V.ref p] ∧ (SqL K H p ys ∨ SqT K H p ys) ∧ ∀ (l : Addr), H l = none → Q (V.ref l) (upd H l (HO.lst ys))) (tCons (tVar 1) tNil)) (gName 2))
        (tSeq (tDrop (tBM K "list" rAppend (tVar 1) (tCons (tC (V.str "?")) tNil)))
          (tRet (tOp (rEqD K) (fun σZ HZ Q => σZ[0]? = some (some (V.ref f)) ∧ HZ c' = some (CodeO c' q) ∧ tl HZ Q) (tVar 2)))))))
def TTs (K : PySem.W.Frag) : (XK → Hp → VK → Prop) → Hp → VK → Prop := fun tl H Q => ∀ (f c' : Addr) (q : Str), H c' = some (CodeO c' q) →
  tStays K (tl fun _ _ _ => False) f c' q { nx := fun _ H' => Q V.non H', rt := Q } (L2.start ["deed", "told", "kept"] [V.ref f]) H
def staysE (f : Rho → R Sl) : Rho → R D := fun ρ => match f ρ with
  | .ok (.o xs) => if xs.length < 1000000 then (match eqD (.list xs) (.list xs) with
    | some b => .ok (.bool b)
    | none => .bad) else .bad
  | _ => .bad
section
variable {X : Cx}
theorem stays_gv {sg : Scope} {g : Addr} {cdg : Value} {q qz : Str} {jf jq : Nat} {p3 p4 p5 p6 p7 p8 p9 p10 p11 p12 p13 p14 p15 p16 p17 p18 p19 p20 p21 p22 p23 p24 p25 p26 p27 p28 p29 : Pos}
    (hgi : sg.names.lookup ("isinstance" : Str) = some .globalImplicit) (hgl : sg.names.lookup ("list" : Str) = some .globalImplicit) (hd : sg.names.lookup ("deed" : Str) = some .local) (ht : sg.names.lookup ("told" : Str) = some .local) (hk : sg.names.lookup ("kept" : Str) = some .local)
    (zi : X.mg "isinstance" = none) (zl : X.mg "list" = none) (hr : Room 3 X.A) (hq : qz = "?") (ha1 : (p20.endLine == p22.line) = true) :
    GivesTo X ["deed", "told", "kept"] "_law_stays" sg g cdg
      [.Assign [.Name "told" p3] (.Call (.Name "deed" p4) [] [] p5) p6,
       .If (.UnaryOp .Not (.Call (.Name "isinstance" p7) [.Name "told" p8, .Name "list" p9] [] p10) p11) [.Return (some (.Constant (.bool false) jf p12)) p13] [] p14,
       .Assign [.Name "kept" p15] (.Call (.Name "list" p16) [.Name "told" p17] [] p18) p19,
       .Expr (.Call (.Attribute (.Name "told" p21) "append" p20) [.Constant (.str qz) jq p23] [] p22) p24,
       .Return (some (.Compare (.Call (.Name "deed" p25) [] [] p26) [.Eq] [.Name "kept" p27] p28)) p29] "deed" q (TTs X.K) := by
  intro f c' s H Q tl act hc h
  subst hq
  have nd : (["deed", "told", "kept"] : List Str).Nodup := by decide
  have A0 : ∀ pa pb, PE (cxOf C8.CX0 X.prog X.w X.K X.mg X.base ["deed", "told", "kept"] "_law_stays" sg g cdg X.A X.stack s H C8.E0).nox (.Call (.Name "deed" pa) [] [] pb) (fun σZ HZ Q => σZ[0]? = some (some (.ref f)) ∧ HZ c' = some (CodeO c' q) ∧ tl (fun _ _ _ => False) HZ Q) :=
    fun pa pb => act (fun _ _ _ _ => False) [] (fun _ _ => False) (fun _ _ _ => False) pa pb L2.takes0 (fun _ _ _ _ h => h)
  have hu : (cxOf C8.CX0 X.prog X.w X.K X.mg X.base ["deed", "told", "kept"] "_law_stays" sg g cdg X.A X.stack s H C8.E0).nox.A.units + 64 < cLine := by
    have := hr.un
    show X.A.units + 3 + 64 < cLine
    omega
  have v1 : ∀ pa, PE (cxOf C8.CX0 X.prog X.w X.K X.mg X.base ["deed", "told", "kept"] "_law_stays" sg g cdg X.A X.stack s H C8.E0).nox (.Name "told" pa) (tVar 1) := fun pa => pe_var (i := 1) rfl (.inl ht) (by decide) (by decide)
  have v2 : ∀ pa, PE (cxOf C8.CX0 X.prog X.w X.K X.mg X.base ["deed", "told", "kept"] "_law_stays" sg g cdg X.A X.stack s H C8.E0).nox (.Name "kept" pa) (tVar 2) := fun pa => pe_var (i := 2) rfl (.inl hk) (by decide) (by decide)
  exact ⟨_, (pss_cons (ps_set (i := 1) nd rfl (.inl ht) (A0 p4 p5)) (pss_cons (ps_if (pt_not (pt_val (pe_callB call_isi hgi zi bt_isinstance (pa_cons (v1 p8) (pa_cons (pe_bltn (v := .ty "list") hgl zl bt_list rfl) pa_nil))))) (pss_one (ps_ret pe_bl)) pss_nil)
    (pss_cons (ps_set (i := 2) nd rfl (.inl hk) (pe_callTy call_list_of hgl zl bt_list (pa_cons (v1 p17) pa_nil)))
    (pss_cons (ps_expr (pe_bm PySem.F.plainAttrs_list PySem.F.slot_list_append PySem.F.type_list_append mt_append (v1 p21) (pa_cons pe_str pa_nil) (hline := ha1)))
    (pss_one (ps_ret (pe_cmpR (op_eqD hu) (A0 p25 p26) (v2 p27) (nomark _)))))))), h f c' q hc⟩
theorem me_stays {c : Cm} {W : WM} {g cc P : Addr} {k : Nat} {pg : Arguments} {bg : List Stmt} {sg : Scope} {dV kV doc pm cdv ct oc : Value} {an od : Option Addr} {osl : Array (Option Value)} {Ng : List Str}
    {params : Arguments} {body : Expr} {scope : Scope} {fB : Rho → R Sl} {p lpos pos : Pos} (hg : Gl X "_law_stays") (hm : X.mg "_law_stays" = some (.ref g)) (hk : PySem.W.keepIn X.K (.ref g) = true)
    (lk : X.K.lookup g = some ⟨oc, od, .func (PySem.W.fnOf "_law_stays" "_law_stays" pg bg sg dV kV doc pm an cdv ct), osl⟩) (hcg : PySem.W.codeIn X.K cdv "_law_stays" = true) (hb : L2.Binds X.K (PySem.W.fnOf "_law_stays" "_law_stays" pg bg sg dV kV doc pm an cdv ct) ["deed"] []) (Sg : FnScope Ng ["deed"] sg) (hNg : Ng[0]? = some ("deed" : Str)) (hva : Vis sg "deed")
    (hG : GivesTo X Ng "_law_stays" sg g cdv bg "deed" (X.env.qual ++ "<lambda>") (TTs X.K)) (hqo : qof lpos = X.env.qual ++ "<lambda>") (TB : TabB X.base X.mg cc P) (hcode : X.env.code = .ref cc) (hT : TabQ c.H0 P) (hr : Room (k + 2) X.A)
    (L : LamS X.env.scope scope) (hdef : defaultsOf params X.env = ([], [])) (hbind : ∀ (q : Str) (cl : List (Str × Addr)) (pm cv ctv : Value), bindArgs (PySem.W.kla_fn "<lambda>" q params body scope cl pm cv ctv) ⟨[], []⟩ = pure [])
    (hbody : ∀ (A : Around) (outer : List Env) (s : Shared) (H : Hp) (E : XK) (f c' : Addr), Room k (A.deeper (lamEnv X scope s.heap.objs.size f c')) → MN (lamCx X A outer s H E scope f c') c W0 body fB) :
    ME X c W (.Call (.Name "_law_stays" p) [.Lambda params body scope lpos] [] pos) (staysE fB) := by
  refine PE.imp (pe_lamM (t := fun E => tN X.K c W0 fB) hg hm hk ⟨lk, hcg, hb, Sg, hNg, hva⟩ hG TB hcode hqo hr L hdef hbind hbody) fun σ H Qk ⟨G, ρ, ok, p⟩ => ?_
  refine ⟨ok.e.h.tabs P hT, fun H1 grow f c' q hc => ?_⟩
  have gr := Gr.grow ok.s grow
  have ok1 := ok.gr gr
  unfold staysE at p
  cases e : fB ρ with
  | bad => rw [e] at p; exact p.elim
  | rz z => rw [e] at p; exact p.elim
  | ok sl =>
    cases sl with
    | no => rw [e] at p; exact p.elim
    | d x => rw [e] at p; exact p.elim
    | o xs =>
      rw [e] at p
      dsimp only at p
      by_cases hl : xs.length < 1000000
      · rw [if_pos hl] at p
        cases eb : eqD (.list xs) (.list xs) with
        | none => rw [eb] at p; exact p.elim
        | some b =>
          rw [eb] at p
          refine ⟨rfl, hc, G, ρ, ok1, ?_⟩
          show PostN X.K c W0 G H1 σ _ (fB ρ)
          rw [e]
          intro G' H' v g1 nw
          obtain ⟨a, us, rfl, ha, ga, na, qa⟩ := nw
          refine ⟨.ref a, rfl, .ref a, .ty "list", .type "list", .type "list", true, rfl, .ty _, .base (.lst ha), kit_ty (kit_tab .list (.list xs) rfl), ?_⟩
          refine ⟨true, rfl, ?_⟩
          simp only [Bool.not_true, Bool.false_eq_true, if_false]
          refine ⟨.ref a, rfl, a, us, rfl, .inl (SqL.of ha), fun l hlN => ?_⟩
          have nal : a ≠ l := fun z => by rw [z, hlN] at ha; cases ha
          have g2 : Gr G' H' G' (upd H' l (.lst us)) := Gr.own g1.s hlN
          have ha2 : upd H' l (.lst us) a = some (.lst us) := by rw [upd_ne nal]; exact ha
          have g3 : Gr G H1 G' (upd (upd H' l (.lst us)) a (.lst (us ++ [.str "?"]))) := (g1.trans g2).wr0 ha2 ga na
          have ok3 : Ok X.K c G' (upd (upd H' l (.lst us)) a (.lst (us ++ [.str "?"]))) ρ σ := ((ok1.gr g1).gr g2).wr0 ha2 ga (na.of ok1.e.h) fun j ys ej => ok1.apart na ej
          have hl3 : upd (upd H' l (.lst us)) a (.lst (us ++ [.str "?"])) l = some (.lst us) := by rw [upd_ne (Ne.symm nal), upd_same]
          refine ⟨.ref a, rfl, tyL ha2, a, us, .str "?", rfl, rfl, ha2, szl (by rw [qa.length]; exact hl), ?_⟩
          refine ⟨rfl, g3.h.keep _ _ hc codeO_ne, G', ρ, ok3, ?_⟩
          show PostN X.K c W0 G' _ σ _ (fB ρ)
          rw [e]
          intro G2 H4 w g4 nw4
          obtain ⟨a2, us2, rfl, hb, gb, nb, qb⟩ := nw4
          refine ⟨.ref l, rfl, ?_⟩
          refine cmd_eq (X := X) (c := c) G2 H4 _ _ (.list xs) (.list xs) b _ eb g4.s (.inr ⟨a2, us2, xs, rfl, rfl, hb, qb⟩) (.inr ⟨l, us, xs, rfl, rfl, g4.h.keep _ _ hl3 nt_lst, QA.mono g4.g _ _ qa⟩) fun G5 H5 g5 => ?_
          exact p G5 H5 _ (((gr.trans g3).trans g4).trans g5) (.bl b)
      · rw [if_neg hl] at p; exact p.elim
end
end M

/-! lists that are told as data, known to be new -/
namespace M
open PySem PySem.Spec PyProof.Rows L2
def nL (f : Rho → R D) : Rho → R Sl := fun ρ => (f ρ).bind fun x => match x with
  | .list xs => .ok (.o xs)
  | _ => .bad
section
variable {X : Cx} {c : Cm} {W : WM} {a : Expr} {f : Rho → R D} {p p2 q pos : Pos}
theorem mn_sortSet (hc : X.calm = true) (hg : Gl X "sorted") (hm : X.mg "sorted" = none) (hg2 : Gl X "set") (hm2 : X.mg "set" = none) (ha : MB X c W a f) (na : starEach [a] X.env = (false, eval a X.env) :: starEach [] X.env := by rfl) :
    MN X c W (.Call (.Name "sorted" p) [.Call (.Name "set" p2) [a] [] q] [] pos) (nL (e1 sortSetD f)) :=
  PE.imp (Mset.pe_sortSet hc hg hm bt_sorted hg2 hm2 ha na) fun σ H Qk ⟨G, ρ, ok, p⟩ => by
    have p' : PostN X.K c W G H σ Qk ((f ρ).bind fun x => (R.of (sortSetD x)).bind fun x => match x with
      | .list xs => .ok (.o xs)
      | _ => .bad) := by
      have e : nL (e1 sortSetD f) ρ = ((f ρ).bind fun x => (R.of (sortSetD x)).bind fun x => match x with
        | .list xs => .ok (.o xs)
        | _ => .bad) := by
        unfold nL e1
        cases f ρ <;> rfl
      rw [← e]
      exact p
    exact stepN ok p' fun x G1 H1 v _ g1 r1 ok1 p1 => by
      unfold sortSetD at p1
      cases e : itemsInt x with
      | none => rw [e] at p1; exact p1.elim
      | some is =>
        rw [e] at p1
        dsimp only at p1
        by_cases hl : is.length < 64
        · rw [if_pos hl] at p1
          obtain ⟨l, rfl, hi⟩ := ints_at ok1.s r1 e
          refine ⟨l, is, rfl, hi, hl, fun ns' p hs hmem hp => ?_⟩
          have pm : ns'.Perm (sortI (Mset.uniq is)) := (List.perm_ext_iff_of_nodup (lt_nodup hs) ((sortI_perm _).nodup_iff.mpr (Mset.uniq_nodup is))).mpr fun j => by
            rw [hmem j, sortI_mem, Mset.mem_uniq]
          rw [sorted_uniq pm (lt_le hs) (sortI_sorted _)]
          exact p1 G1 _ _ (Gr.own ok1.s hp) ⟨p, _, rfl, upd_same, ok1.s.free hp, Nw.none hp, QA.ints⟩
        · rw [if_neg hl] at p1; exact p1.elim
end
/-- tuples of plain things alone -/
def plD : D → Bool
  | .none => true
  | .bool _ => true
  | .int _ => true
  | .str _ => true
  | .tuple xs => xs.all flatD
  | _ => false
/-- without its lists -/
def noL (G : Hp) : Hp := fun a => match G a with
  | some (.lst _) => none
  | o => o
theorem noL_lst {G : Hp} {a : Addr} {us : List V} (h : noL G a = some (.lst us)) : False := by
  unfold noL at h
  split at h
  · cases h
  · rename_i o hn
    exact hn us h
theorem noL_le {G : Hp} {a : Addr} {o : HO} (h : noL G a = some o) : G a = some o := by
  unfold noL at h
  split at h
  · cases h
  · exact h
theorem noL_of {G : Hp} {a : Addr} {o : HO} (h : G a = some o) (n : ∀ us, o ≠ .lst us) : noL G a = some o := by
  unfold noL
  rw [h]
  cases o with
  | lst us => exact absurd rfl (n us)
  | _ => rfl
theorem Q.flt {K : PySem.W.Frag} {ns : Sc} {G G' : Hp} {v : V} {d : D} (f : flatD d = true) (q : Q K ns G v d) : Q K ns G' v d := by
  cases q with
  | non => exact .non
  | bl b => exact .bl b
  | int i => exact .int i
  | str x => exact .str x
  | _ => cases f
theorem QA.flt {K : PySem.W.Frag} {ns : Sc} {G G' : Hp} : ∀ {ds : List D} {vs : List V}, ds.all flatD = true → QA K ns G vs ds → QA K ns G' vs ds
  | [], _, _, h => by cases h; exact .nil
  | d :: ds, _, f, h => by
    rw [List.all_cons, Bool.and_eq_true] at f
    cases h with
    | cons h1 h2 => exact .cons (Q.flt f.1 h1) (QA.flt f.2 h2)
theorem Q.noL {K : PySem.W.Frag} {ns : Sc} {G : Hp} {v : V} {d : D} (f : plD d = true) (q : Q K ns G v d) : Q K ns (noL G) v d := by
  cases q with
  | non => exact .non
  | bl b => exact .bl b
  | int i => exact .int i
  | str x => exact .str x
  | tup h1 h2 =>
    refine .tup ?_ (QA.flt f h2)
    rcases h1 with (h | ⟨o, h⟩) | h
    · exact .inl (.inl (noL_of h fun us z => nomatch z))
    · exact .inl (.inr ⟨o, noL_of h fun us z => nomatch z⟩)
    · exact .inr h
  | _ => cases f
theorem QA.noL {K : PySem.W.Frag} {ns : Sc} {G : Hp} : ∀ {ds : List D} {vs : List V}, ds.all plD = true → QA K ns G vs ds → QA K ns (noL G) vs ds
  | [], _, _, h => by cases h; exact .nil
  | d :: ds, _, f, h => by
    rw [List.all_cons, Bool.and_eq_true] at f
    cases h with
    | cons h1 h2 => exact .cons (Q.noL f.1 h1) (QA.noL f.2 h2)
/-- a list of plain things that is told of tuples alone is a new one -/
def fcall (f : List D → Out) (g : Rho → R (List D)) : Rho → R Sl := fun ρ => (g ρ).bind fun ds => if ds.all plD = true then match f ds with
  | .rt (.list xs) => if xs.all flatD = true then .ok (.o xs) else .bad
  | _ => .bad else .bad
section
variable {X : Cx} {c : Cm} {W : WM}
theorem mn_callN {k : Nat} {fa : Addr} {fd : FuncData} {ps : List Str} {x : Str} {p pos : Pos} {e : Expr} {es : List Expr} {f : List D → Out} {g : Rho → R (List D)} (F : FnOk X.prog X.w X.K X.mg X.base CX0 k fa fd ps (spM X.K c.ns X.mg f)) (hr : Room k X.A) (hg : Gl X x) (hm : X.mg x = some (.ref fa)) (hk : PySem.W.keepIn X.K (.ref fa) = true) (hb : Binds X.K fd ps [])
    (ha : MA X c W (e :: es) g) (hdb : (x == ("__debug__" : Str)) = false := by decide) (he : starEach (e :: es) X.env = (false, eval e X.env) :: starEach es X.env := by rfl) (hpl : (backTo pos (starEach es X.env)).any (·.1) = false := by rfl) :
    MN X c W (.Call (.Name x p) (e :: es) [] pos) (fcall f g) :=
  PE.imp (L2.pe_callS (E := fun _ _ _ _ => True) F hr hg hm hk hb (fun σ pins H s e s' I h => (show False from h).elim) ha hdb he hpl) fun σ H Qk ⟨G, ρ, ok, p⟩ => stepN ok p fun ds G1 H1 vs _ g1 r1 ok1 p1 => by
    by_cases hd : ds.all plD = true
    · rw [if_pos hd] at p1
      refine ⟨noL G1, ds, fun b o h => ok1.s b o (noL_le h), QA.noL hd r1, ?_⟩
      split at p1
      · rename_i xs e
        rw [e]
        by_cases hx : xs.all flatD = true
        · rw [if_pos hx] at p1
          intro G' H' v gr q
          cases q with
          | lst h1 h2 =>
            rename_i a us
            have hn : Nw H1 a := fun o ho ht => by
              have g0 : noL G1 a = none := by
                cases hz : noL G1 a with
                | none => rfl
                | some o2 =>
                  have z := gr.g _ _ hz
                  rw [h1] at z
                  cases z
                  exact (noL_lst hz).elim
              have := gr.n a o ho ht g0
              rw [h1] at this
              cases this
            have ga : G1 a = none := by
              cases hz : G1 a with
              | none => rfl
              | some o2 => exact (hn o2 (ok1.s a o2 hz).1 (ok1.s a o2 hz).2).elim
            exact p1 G1 H' _ ⟨Same.refl G1, gr.h, ok1.s.ex gr.h, fun _ _ _ _ h => h⟩ ⟨a, us, rfl, (gr.s _ _ h1).1, ga, hn, QA.flt hx h2⟩
        · rw [if_neg hx] at p1; exact p1.elim
      · exact p1.elim
    · rw [if_neg hd] at p1; exact p1.elim
end
end M

namespace G
open PySem PySem.Spec PyProof.Rows L2 M
def topS (i : Nat) : Stmt := PySem.Challenge.pw_turntracks_k71_whole_told_lists.main.body.getD i (.Pass ⟨0, 0, 0, 0⟩)
abbrev s__law_cell : Stmt := topS 38
theorem sc__law_cell : FnScope ["script", "k"] ["script", "k"] (defScope s__law_cell) := ⟨rfl, rfl, rfl, by decide +kernel, rfl, by decide +kernel, by decide +kernel⟩
abbrev s__law_pick : Stmt := topS 39
theorem sc__law_pick : FnScope ["script", "k", "many", "drawn"] ["script", "k", "many"] (defScope s__law_pick) := ⟨rfl, rfl, rfl, by decide +kernel, rfl, by decide +kernel, by decide +kernel⟩
abbrev s__law_rough : Stmt := topS 40
theorem sc__law_rough : FnScope ["script", "at", "most", "k", "made", "place"] ["script", "at", "most"] (defScope s__law_rough) := ⟨rfl, rfl, rfl, by decide +kernel, rfl, by decide +kernel, by decide +kernel⟩
abbrev s__law_moves : Stmt := topS 42
theorem sc__law_moves : FnScope ["script", "at", "top", "k"] ["script", "at"] (defScope s__law_moves) := ⟨rfl, rfl, rfl, by decide +kernel, rfl, by decide +kernel, by decide +kernel⟩
abbrev s__law_stays : Stmt := topS 44
theorem sc__law_stays : FnScope ["deed", "told", "kept"] ["deed"] (defScope s__law_stays) := ⟨rfl, rfl, rfl, by decide +kernel, rfl, by decide +kernel, by decide +kernel⟩
abbrev s_is_whole : Stmt := topS 8
theorem sc_is_whole : FnScope ["thing", "low", "high"] ["thing", "low", "high"] (defScope s_is_whole) := ⟨rfl, rfl, rfl, by decide +kernel, rfl, by decide +kernel, by decide +kernel⟩
abbrev s_is_sample : Stmt := topS 9
theorem sc_is_sample : FnScope ["thing"] ["thing"] (defScope s_is_sample) := ⟨rfl, rfl, rfl, by decide +kernel, rfl, by decide +kernel, by decide +kernel⟩
abbrev s_is_row : Stmt := topS 10
theorem sc_is_row : FnScope ["thing", "one"] ["thing"] (defScope s_is_row) := ⟨rfl, rfl, rfl, by decide +kernel, rfl, by decide +kernel, by decide +kernel⟩
abbrev s_look_row : Stmt := topS 11
theorem sc_look_row : FnScope ["row"] ["row"] (defScope s_look_row) := ⟨rfl, rfl, rfl, by decide +kernel, rfl, by decide +kernel, by decide +kernel⟩
abbrev s_far_on : Stmt := topS 12
theorem sc_far_on : FnScope ["one", "other"] ["one", "other"] (defScope s_far_on) := ⟨rfl, rfl, rfl, by decide +kernel, rfl, by decide +kernel, by decide +kernel⟩
abbrev s_step_between : Stmt := topS 13
theorem sc_step_between : FnScope ["one", "other"] ["one", "other"] (defScope s_step_between) := ⟨rfl, rfl, rfl, by decide +kernel, rfl, by decide +kernel, by decide +kernel⟩
abbrev s_jumps : Stmt := topS 15
theorem sc_jumps : FnScope ["row", "number"] ["row"] (defScope s_jumps) := ⟨rfl, rfl, rfl, by decide +kernel, rfl, by decide +kernel, by decide +kernel⟩
abbrev s_bounces : Stmt := topS 16
theorem sc_bounces : FnScope ["row", "made", "number"] ["row"] (defScope s_bounces) := ⟨rfl, rfl, rfl, by decide +kernel, rfl, by decide +kernel, by decide +kernel⟩
abbrev s_fitting : Stmt := topS 17
theorem sc_fitting : FnScope ["row", "best", "number", "ranked", "ahead", "some"] ["row"] (defScope s_fitting) := ⟨rfl, rfl, rfl, by decide +kernel, rfl, by decide +kernel, by decide +kernel⟩
abbrev s_settled : Stmt := topS 18
theorem sc_settled : FnScope ["row", "many", "made", "here", "number"] ["row", "many"] (defScope s_settled) := ⟨rfl, rfl, rfl, by decide +kernel, rfl, by decide +kernel, by decide +kernel⟩
abbrev s_look_moves : Stmt := topS 23
theorem sc_look_moves : FnScope ["moves", "play", "one"] ["moves", "play"] (defScope s_look_moves) := ⟨rfl, rfl, rfl, by decide +kernel, rfl, by decide +kernel, by decide +kernel⟩
abbrev s_go_along : Stmt := topS 24
theorem sc_go_along : FnScope ["moves", "play", "begin", "other", "move", "driver", "made"] ["moves", "play", "begin"] (defScope s_go_along) := ⟨rfl, rfl, rfl, by decide +kernel, rfl, by decide +kernel, by decide +kernel⟩
abbrev s_followed : Stmt := topS 25
theorem sc_followed : FnScope ["moves", "play", "begin"] ["moves", "play", "begin"] (defScope s_followed) := ⟨rfl, rfl, rfl, by decide +kernel, rfl, by decide +kernel, by decide +kernel⟩
abbrev s_all_ends : Stmt := topS 26
theorem sc_all_ends : FnScope ["moves", "play", "begin"] ["moves", "play"] (defScope s_all_ends) := ⟨rfl, rfl, rfl, by decide +kernel, rfl, by decide +kernel, by decide +kernel⟩
abbrev s_lost_moves : Stmt := topS 27
theorem sc_lost_moves : FnScope ["moves", "play", "begin", "some", "number"] ["moves", "play", "begin"] (defScope s_lost_moves) := ⟨rfl, rfl, rfl, by decide +kernel, rfl, by decide +kernel, by decide +kernel⟩
abbrev s_power : Stmt := topS 30
theorem sc_power : FnScope ["many", "made", "again"] ["many"] (defScope s_power) := ⟨rfl, rfl, rfl, by decide +kernel, rfl, by decide +kernel, by decide +kernel⟩
abbrev s_unlike_tracks : Stmt := topS 31
theorem sc_unlike_tracks : FnScope ["one", "other", "many", "track"] ["one", "other", "many"] (defScope s_unlike_tracks) := ⟨rfl, rfl, rfl, by decide +kernel, rfl, by decide +kernel, by decide +kernel⟩
abbrev s_is_plate : Stmt := topS 32
theorem sc_is_plate : FnScope ["many", "thing", "at", "one"] ["many", "thing"] (defScope s_is_plate) := ⟨rfl, rfl, rfl, by decide +kernel, rfl, by decide +kernel, by decide +kernel⟩
abbrev s_look_plate : Stmt := topS 33
theorem sc_look_plate : FnScope ["many", "plate"] ["many", "plate"] (defScope s_look_plate) := ⟨rfl, rfl, rfl, by decide +kernel, rfl, by decide +kernel, by decide +kernel⟩
abbrev s_changes : Stmt := topS 34
theorem sc_changes : FnScope ["many", "plate", "made", "at", "track"] ["many", "plate"] (defScope s_changes) := ⟨rfl, rfl, rfl, by decide +kernel, rfl, by decide +kernel, by decide +kernel⟩
abbrev s_way_on : Stmt := topS 35
theorem sc_way_on : FnScope ["many", "plate", "codes", "places", "made", "one", "other", "code", "on"] ["many", "plate", "codes"] (defScope s_way_on) := ⟨rfl, rfl, rfl, by decide +kernel, rfl, by decide +kernel, by decide +kernel⟩
abbrev s_all_plates : Stmt := topS 36
theorem sc_all_plates : FnScope ["many", "size", "rows", "again", "longer", "row", "free", "nexts", "one"] ["many", "size"] (defScope s_all_plates) := ⟨rfl, rfl, rfl, by decide +kernel, rfl, by decide +kernel, by decide +kernel⟩
abbrev s_law : Stmt := topS 45
theorem sc_law : FnScope ["script", "mine", "good", "row", "moves", "codes"] ["script"] (defScope s_law) := ⟨rfl, rfl, rfl, by decide +kernel, rfl, by decide +kernel, by decide +kernel⟩
structure Txt (K : PySem.W.Frag) (mg : Str → Option Value) where
  a__law_cell : Addr
  d__law_cell : FuncData
  F__law_cell : Fun K "_law_cell" "_law_cell" s__law_cell a__law_cell d__law_cell
  g__law_cell : mg "_law_cell" = some (.ref a__law_cell)
  b__law_cell : L2.Binds K d__law_cell ["script", "k"] []
  a__law_pick : Addr
  d__law_pick : FuncData
  F__law_pick : Fun K "_law_pick" "_law_pick" s__law_pick a__law_pick d__law_pick
  g__law_pick : mg "_law_pick" = some (.ref a__law_pick)
  b__law_pick : L2.Binds K d__law_pick ["script", "k", "many"] []
  a__law_rough : Addr
  d__law_rough : FuncData
  F__law_rough : Fun K "_law_rough" "_law_rough" s__law_rough a__law_rough d__law_rough
  g__law_rough : mg "_law_rough" = some (.ref a__law_rough)
  b__law_rough : L2.Binds K d__law_rough ["script", "at", "most"] []
  a__law_moves : Addr
  d__law_moves : FuncData
  F__law_moves : Fun K "_law_moves" "_law_moves" s__law_moves a__law_moves d__law_moves
  g__law_moves : mg "_law_moves" = some (.ref a__law_moves)
  b__law_moves : L2.Binds K d__law_moves ["script", "at"] []
  a__law_stays : Addr
  d__law_stays : FuncData
  F__law_stays : Fun K "_law_stays" "_law_stays" s__law_stays a__law_stays d__law_stays
  g__law_stays : mg "_law_stays" = some (.ref a__law_stays)
  b__law_stays : L2.Binds K d__law_stays ["deed"] []
  a_is_whole : Addr
  d_is_whole : FuncData
  F_is_whole : Fun K "is_whole" "is_whole" s_is_whole a_is_whole d_is_whole
  g_is_whole : mg "is_whole" = some (.ref a_is_whole)
  b_is_whole : L2.Binds K d_is_whole ["thing", "low", "high"] []
  a_is_sample : Addr
  d_is_sample : FuncData
  F_is_sample : Fun K "is_sample" "is_sample" s_is_sample a_is_sample d_is_sample
  g_is_sample : mg "is_sample" = some (.ref a_is_sample)
  b_is_sample : L2.Binds K d_is_sample ["thing"] []
  a_is_row : Addr
  d_is_row : FuncData
  F_is_row : Fun K "is_row" "is_row" s_is_row a_is_row d_is_row
  g_is_row : mg "is_row" = some (.ref a_is_row)
  b_is_row : L2.Binds K d_is_row ["thing"] []
  a_look_row : Addr
  d_look_row : FuncData
  F_look_row : Fun K "look_row" "look_row" s_look_row a_look_row d_look_row
  g_look_row : mg "look_row" = some (.ref a_look_row)
  b_look_row : L2.Binds K d_look_row ["row"] []
  a_far_on : Addr
  d_far_on : FuncData
  F_far_on : Fun K "far_on" "far_on" s_far_on a_far_on d_far_on
  g_far_on : mg "far_on" = some (.ref a_far_on)
  b_far_on : L2.Binds K d_far_on ["one", "other"] []
  a_step_between : Addr
  d_step_between : FuncData
  F_step_between : Fun K "step_between" "step_between" s_step_between a_step_between d_step_between
  g_step_between : mg "step_between" = some (.ref a_step_between)
  b_step_between : L2.Binds K d_step_between ["one", "other"] []
  a_jumps : Addr
  d_jumps : FuncData
  F_jumps : Fun K "jumps" "jumps" s_jumps a_jumps d_jumps
  g_jumps : mg "jumps" = some (.ref a_jumps)
  b_jumps : L2.Binds K d_jumps ["row"] []
  a_bounces : Addr
  d_bounces : FuncData
  F_bounces : Fun K "bounces" "bounces" s_bounces a_bounces d_bounces
  g_bounces : mg "bounces" = some (.ref a_bounces)
  b_bounces : L2.Binds K d_bounces ["row"] []
  a_fitting : Addr
  d_fitting : FuncData
  F_fitting : Fun K "fitting" "fitting" s_fitting a_fitting d_fitting
  g_fitting : mg "fitting" = some (.ref a_fitting)
  b_fitting : L2.Binds K d_fitting ["row"] []
  a_settled : Addr
  d_settled : FuncData
  F_settled : Fun K "settled" "settled" s_settled a_settled d_settled
  g_settled : mg "settled" = some (.ref a_settled)
  b_settled : L2.Binds K d_settled ["row", "many"] []
  a_look_moves : Addr
  d_look_moves : FuncData
  F_look_moves : Fun K "look_moves" "look_moves" s_look_moves a_look_moves d_look_moves
  g_look_moves : mg "look_moves" = some (.ref a_look_moves)
  b_look_moves : L2.Binds K d_look_moves ["moves", "play"] []
  a_go_along : Addr
  d_go_along : FuncData
  F_go_along : Fun K "go_along" "go_along" s_go_along a_go_along d_go_along
  g_go_along : mg "go_along" = some (.ref a_go_along)
  b_go_along : L2.Binds K d_go_along ["moves", "play", "begin"] []
  a_followed : Addr
  d_followed : FuncData
  F_followed : Fun K "followed" "followed" s_followed a_followed d_followed
  g_followed : mg "followed" = some (.ref a_followed)
  b_followed : L2.Binds K d_followed ["moves", "play", "begin"] []
  a_all_ends : Addr
  d_all_ends : FuncData
  F_all_ends : Fun K "all_ends" "all_ends" s_all_ends a_all_ends d_all_ends
  g_all_ends : mg "all_ends" = some (.ref a_all_ends)
  b_all_ends : L2.Binds K d_all_ends ["moves", "play"] []
  a_lost_moves : Addr
  d_lost_moves : FuncData
  F_lost_moves : Fun K "lost_moves" "lost_moves" s_lost_moves a_lost_moves d_lost_moves
  g_lost_moves : mg "lost_moves" = some (.ref a_lost_moves)
  b_lost_moves : L2.Binds K d_lost_moves ["moves", "play", "begin"] []
  a_power : Addr
  d_power : FuncData
  F_power : Fun K "power" "power" s_power a_power d_power
  g_power : mg "power" = some (.ref a_power)
  b_power : L2.Binds K d_power ["many"] []
  a_unlike_tracks : Addr
  d_unlike_tracks : FuncData
  F_unlike_tracks : Fun K "unlike_tracks" "unlike_tracks" s_unlike_tracks a_unlike_tracks d_unlike_tracks
  g_unlike_tracks : mg "unlike_tracks" = some (.ref a_unlike_tracks)
  b_unlike_tracks : L2.Binds K d_unlike_tracks ["one", "other", "many"] []
  a_is_plate : Addr
  d_is_plate : FuncData
  F_is_plate : Fun K "is_plate" "is_plate" s_is_plate a_is_plate d_is_plate
  g_is_plate : mg "is_plate" = some (.ref a_is_plate)
  b_is_plate : L2.Binds K d_is_plate ["many", "thing"] []
  a_look_plate : Addr
  d_look_plate : FuncData
  F_look_plate : Fun K "look_plate" "look_plate" s_look_plate a_look_plate d_look_plate
  g_look_plate : mg "look_plate" = some (.ref a_look_plate)
  b_look_plate : L2.Binds K d_look_plate ["many", "plate"] []
  a_changes : Addr
  d_changes : FuncData
  F_changes : Fun K "changes" "changes" s_changes a_changes d_changes
  g_changes : mg "changes" = some (.ref a_changes)
  b_changes : L2.Binds K d_changes ["many", "plate"] []
  a_way_on : Addr
  d_way_on : FuncData
  F_way_on : Fun K "way_on" "way_on" s_way_on a_way_on d_way_on
  g_way_on : mg "way_on" = some (.ref a_way_on)
  b_way_on : L2.Binds K d_way_on ["many", "plate", "codes"] []
  a_all_plates : Addr
  d_all_plates : FuncData
  F_all_plates : Fun K "all_plates" "all_plates" s_all_plates a_all_plates d_all_plates
  g_all_plates : mg "all_plates" = some (.ref a_all_plates)
  b_all_plates : L2.Binds K d_all_plates ["many", "size"] []
  a_law : Addr
  d_law : FuncData
  F_law : Fun K "law" "law" s_law a_law d_law
  g_law : mg "law" = some (.ref a_law)
  b_law : L2.Binds K d_law ["script"] []
  z_all : mg "all" = none
  z_bool : mg "bool" = none
  z_int : mg "int" = none
  z_isinstance : mg "isinstance" = none
  z_len : mg "len" = none
  z_list : mg "list" = none
  z_max : mg "max" = none
  z_min : mg "min" = none
  z_range : mg "range" = none
  z_set : mg "set" = none
  z_sorted : mg "sorted" = none
  z_tuple : mg "tuple" = none
  z_zip : mg "zip" = none
  c_ROUND : KTup K mg "ROUND" [0, 1, 3, 2]
  t_LONGEST : Tok
  c_LONGEST : mg "LONGEST" = some (.int 40 t_LONGEST)
  t_MOST_PLAY : Tok
  c_MOST_PLAY : mg "MOST_PLAY" = some (.int 9 t_MOST_PLAY)
  t_MOST_MOVES : Tok
  c_MOST_MOVES : mg "MOST_MOVES" = some (.int 40 t_MOST_MOVES)
  t_FARTHEST : Tok
  c_FARTHEST : mg "FARTHEST" = some (.int 99 t_FARTHEST)
  t_MOST_TRACKS : Tok
  c_MOST_TRACKS : mg "MOST_TRACKS" = some (.int 5 t_MOST_TRACKS)
section
variable {Pr : Program} {w : World} {K : PySem.W.Frag} {mg : Str → Option Value} {base : Heap} {ns : Sc} {l : List Int}
theorem ok__law_cell (T : Txt K mg) : FnOk Pr w K mg base CX0 1 T.a__law_cell T.d__law_cell ["script", "k"] (spM K ns mg (cellF (cell ns.l))) := by
  refine M.FnOk.by (m := fnM0 2 2 (sSeq (sIf (e2 ltD (bnm 1) (lenS ns.l 0)) (sRet (ixS ns.l 0 (bnm 1))) sNil) (sSeq (sIf (nilS ns.l 0) (sRet (cst (.int 0))) sNil) (sRet (e2 addD (e2 mulD (ixS ns.l 0 (e2 modD (bnm 1) (lenS ns.l 0))) (cst (.int 31))) (bnm 1)))))) ?_ (cell_mir ns.l)
  refine fnOk T.F__law_cell sc__law_cell (fun cdv A outer s H E c hc hr => ?_)
  subst hc
  exact (mss_cons (ms_if (mt_cmp op_lt cmd_lt (mb_name 1 (pv 1)) (mb (me_lenS 0 (by rfl) T.z_len bt_len (pv 0))) (nomark _)) (mss_one (ms_ret (me_ixS 0 (pv 0) (mb_name 1 (pv 1)) (fun _ _ => rfl)))) mss_nil)
    (mss_cons (ms_if (mt_nilS hr.units 0 (pv 0)) (mss_one (ms_ret me_int)) mss_nil)
    (mss_one (ms_ret (me_op opr_add opd_add (mb (me_op opr_mul opd_mul (mb (me_ixS 0 (pv 0) (mb (me_op op_mod opd_mod (mb_name 1 (pv 1)) (mb (me_lenS 0 (by rfl) T.z_len bt_len (pv 0))))) (fun _ _ => rfl))) (mb me_int))) (mb_name 1 (pv 1)))))))
theorem ok__law_pick (T : Txt K mg) : FnOk Pr w K mg base CX0 2 T.a__law_pick T.d__law_pick ["script", "k", "many"] (spM K ns mg (pickF (pick ns.l))) := by
  refine M.FnOk.by (m := fnM0 3 4 (pickB (cellF (cell ns.l)))) ?_ (pick_mir ns.l)
  refine fnOk T.F__law_pick sc__law_pick (fun cdv A outer s H E c hc hr => ?_)
  subst hc
  exact (mss_cons (ms_set (i := 3) sc__law_pick.nd rfl (by first | exact Or.inl rfl | exact Or.inr rfl) (mn_d (me_op op_mod opd_mod (mb (me_op opr_mul opd_mul (mb (me_op opr_add opd_add (mb (me_call (ok__law_cell T) (hr.mono (by decide)) (by rfl) T.g__law_cell T.F__law_cell.kp T.b__law_cell (ma_cons (me_name 0 (pv 0)) (ma_cons (me_name 1 (pv 1)) ma_nil)))) (mb (me_op opr_mul opd_mul (mb me_int) (mb (me_op opr_add opd_add (mb_name 1 (pv 1)) (mb me_int))))))) (mb me_int))) (mb me_int))))
    (mss_one (ms_ret (me_op op_mod opd_mod (mb (me_op op_mod opd_mod (mb (me_op opr_add opd_add (mb (me_op opr_mul opd_mul (mb_name 3 (pv 3)) (mb_name 3 (pv 3)))) (mb (me_op op_fdiv opd_fdiv (mb_name 3 (pv 3)) (mb me_int))))) (mb me_int))) (mb_name 2 (pv 2))))))
def lb1__law_rough (P : Int → Int → Int) : Rho → Out := (sSeq (sApp 4 (e2 ixD (lstE (cons' (cst (.int 0)) (cons' (cst (.int 1)) (cons' (cst (.int 3)) (cons' (cst (.int 2)) (cst [])))))) (e2 modD (bnm 5) (cst (.int 4)))))
    (sSet 5 (nD (e2 addD (bnm 5) (e2 ixD (lstE (cons' (cst (.int 0)) (cons' (cst (.int 1)) (cons' (cst (.int 1)) (cons' (e1 negD (cst (.int 1))) (cons' (e1 negD (cst (.int 1))) (cons' (cst (.int 0)) (cons' (cst (.int 2)) (cons' (cst (.int 1)) (cst [])))))))))) (call (pickF P) (cons' (nm 0) (cons' (e2 addD (e2 addD (bnm 1) (cst (.int 2))) (bnm 3)) (cons' (cst (.int 8)) (cst []))))))))))
def tl2__law_rough : Rho → Out := (sRet (e1 tupleD (cons' (bnm 4) (cst []))))
def tl1__law_rough (P : Int → Int → Int) : Rho → Out := (sSeq (sFor (rg1 (e2 addD (cst (.int 1)) (call (pickF P) (cons' (nm 0) (cons' (e2 addD (bnm 1) (cst (.int 1))) (cons' (nm 2) (cst []))))))) (bName 3) (lb1__law_rough P)) tl2__law_rough)
def tl0__law_rough (P : Int → Int → Int) : Rho → Out := (sSeq (sPar 4 5 (nLst (cst [])) (nD (call (pickF P) (cons' (nm 0) (cons' (nm 1) (cons' (cst (.int 4)) (cst []))))))) (tl1__law_rough P))
def m__law_rough (P : Int → Int → Int) : List D → Out := fnM0 3 6 ((tl0__law_rough P))
theorem ok__law_rough (T : Txt K mg) : FnOk Pr w K mg base CX0 3 T.a__law_rough T.d__law_rough ["script", "at", "most"] (spM K ns mg (m__law_rough (pick ns.l))) := by
  refine fnOk T.F__law_rough sc__law_rough (fun cdv A outer s H E c hc hr => ?_)
  subst hc
  exact (mss_cons (ms_par (i := 4) (j := 5) rfl sc__law_rough.nd rfl rfl (by decide) rfl rfl (mn_lst ma_nil) (mn_d (me_call (ok__law_pick T) (hr.mono (by decide)) (by rfl) T.g__law_pick T.F__law_pick.kp T.b__law_pick (ma_cons (me_name 0 (pv 0)) (ma_cons (me_name 1 (pv 1)) (ma_cons me_int ma_nil))))) (by rfl))
    (mss_cons (ms_for (vs := [3]) PassesOwn.never rfl (mi_range1 (by rfl) T.z_range (mb (me_op opr_add opd_add (mb me_int) (mb (me_call (ok__law_pick T) (hr.mono (by decide)) (by rfl) T.g__law_pick T.F__law_pick.kp T.b__law_pick (ma_cons (me_name 0 (pv 0)) (ma_cons (me_op opr_add opd_add (mb_name 1 (pv 1)) (mb me_int)) (ma_cons (me_name 2 (pv 2)) ma_nil)))))))) (pg_name (i := 3) sc__law_rough.nd rfl (by first | exact Or.inl rfl | exact Or.inr rfl)) (tg_name 3) (mss_cons (ms_app (pe_bm PySem.F.plainAttrs_list PySem.F.slot_list_append PySem.F.type_list_append mt_append (pv 4) (pa_cons (me_ix ix_seq opd_ix (mb (me_lst (ma_cons me_int (ma_cons me_int (ma_cons me_int (ma_cons me_int ma_nil)))))) (mb (me_op op_mod opd_mod (mb_name 5 (pv 5)) (mb me_int))) (fun _ _ => rfl)) pa_nil)))
    (mss_one (ms_set (i := 5) sc__law_rough.nd rfl (by first | exact Or.inl rfl | exact Or.inr rfl) (mn_d (me_op opr_add opd_add (mb_name 5 (pv 5)) (mb (me_ix ix_seq opd_ix (mb (me_lst (ma_cons me_int (ma_cons me_int (ma_cons me_int (ma_cons (me_neg (mb me_int)) (ma_cons (me_neg (mb me_int)) (ma_cons me_int (ma_cons me_int (ma_cons me_int ma_nil)))))))))) (mb (me_call (ok__law_pick T) (hr.mono (by decide)) (by rfl) T.g__law_pick T.F__law_pick.kp T.b__law_pick (ma_cons (me_name 0 (pv 0)) (ma_cons (me_op opr_add opd_add (mb (me_op opr_add opd_add (mb_name 1 (pv 1)) (mb me_int))) (mb_name 3 (pv 3))) (ma_cons me_int ma_nil))))) (fun _ _ => rfl)))))))))
    (mss_one (ms_ret (me_callTy call_tuple_of cad_tuple (by rfl) T.z_tuple bt_tuple (mba_cons (mb_name 4 (pv 4)) mba_nil))))))
def ce1__law_moves (P : Int → Int → Int) : Rho → R D := (e2 subD (call (pickF P) (cons' (nm 0) (cons' (e2 addD (e2 addD (bnm 1) (cst (.int 2))) (bnm 3)) (cons' (nm 2) (cst []))))) (e2 fdivD (bnm 2) (cst (.int 2))))
def tl1__law_moves (P : Int → Int → Int) : Rho → Out := (sRetN (nO (lcE [3] (rg1 (call (pickF P) (cons' (nm 0) (cons' (e2 addD (bnm 1) (cst (.int 1))) (cons' (cst (.int 13)) (cst [])))))) (bName 3) yes (ce1__law_moves P))))
def tl0__law_moves (P : Int → Int → Int) : Rho → Out := (sSeq (sSet 2 (nD (e2 ixD (lstE (cons' (cst (.int 3)) (cons' (cst (.int 9)) (cons' (cst (.int 15)) (cst []))))) (call (pickF P) (cons' (nm 0) (cons' (nm 1) (cons' (cst (.int 3)) (cst [])))))))) (tl1__law_moves P))
def m__law_moves (P : Int → Int → Int) : List D → Out := fnM0 2 4 ((tl0__law_moves P))
theorem ok__law_moves (T : Txt K mg) : FnOk Pr w K mg base CX0 3 T.a__law_moves T.d__law_moves ["script", "at"] (spM K ns mg (m__law_moves (pick ns.l))) := by
  refine fnOk T.F__law_moves sc__law_moves (fun cdv A outer s H E c hc hr => ?_)
  subst hc
  exact (mss_cons (ms_set (i := 2) sc__law_moves.nd rfl (by first | exact Or.inl rfl | exact Or.inr rfl) (mn_d (me_ix ix_seq opd_ix (mb (me_lst (ma_cons me_int (ma_cons me_int (ma_cons me_int ma_nil))))) (mb (me_call (ok__law_pick T) (hr.mono (by decide)) (by rfl) T.g__law_pick T.F__law_pick.kp T.b__law_pick (ma_cons (me_name 0 (pv 0)) (ma_cons (me_name 1 (pv 1)) (ma_cons me_int ma_nil))))) (fun _ _ => rfl))))
    (mss_one (ms_retN (mn_lc (own := [("k", 3)]) rfl sc__law_moves.nd (mi_range1 (by rfl) T.z_range (mb (me_call (ok__law_pick T) (hr.mono (by decide)) (by rfl) T.g__law_pick T.F__law_pick.kp T.b__law_pick (ma_cons (me_name 0 (pv 0)) (ma_cons (me_op opr_add opd_add (mb_name 1 (pv 1)) (mb me_int)) (ma_cons me_int ma_nil)))))) (blkOk_by (N := ["script", "at", "top", "k"]) (sc := defScope s__law_moves) (by decide +kernel)) (fun _ _ _ _ _ => (pg_name (i := 3) sc__law_moves.nd rfl (by first | exact Or.inl rfl | exact Or.inr rfl))) (tg_name 3) (fun _ _ _ _ _ => pts_nil) (fun _ _ _ z => yes_ok z) (fun _ _ _ _ _ => (me_op op_sub opd_sub (mb (me_call (ok__law_pick T) (hr.mono (by decide)) (by rfl) T.g__law_pick T.F__law_pick.kp T.b__law_pick (ma_cons (me_name 0 (pv 0)) (ma_cons (me_op opr_add opd_add (mb (me_op opr_add opd_add (mb_name 1 (pv 1)) (mb me_int))) (mb_name 3 (pv 3))) (ma_cons (me_name 2 (pv 2)) ma_nil))))) (mb (me_op op_fdiv opd_fdiv (mb_name 2 (pv 2)) (mb me_int)))))))))
theorem me_sty {X : Cx} {c : Cm} {W : WM} {cc Pt : Addr} {k : Nat} {params : Arguments} {body : Expr} {scope : Scope} {fB : Rho → R Sl} {p lpos pos : Pos} (T : Txt X.K X.mg) (hg : Gl X "_law_stays") (hqo : qof lpos = X.env.qual ++ "<lambda>") (TB : LamX.TabB X.base X.mg cc Pt) (hcode : X.env.code = .ref cc) (hT : TabQ c.H0 Pt) (hr3 : Room 3 X.A) (hr : Room (k + 2) X.A)
    (L : LamX.LamS X.env.scope scope) (hdef : defaultsOf params X.env = ([], [])) (hbind : ∀ (q : Str) (cl : List (Str × Addr)) (pm cv ctv : Value), bindArgs (PySem.W.kla_fn "<lambda>" q params body scope cl pm cv ctv) ⟨[], []⟩ = pure [])
    (hbody : ∀ (A : Around) (outer : List Env) (s : Shared) (H : Hp) (E : XK) (f c' : Addr), Room k (A.deeper (LamX.lamEnv X scope s.heap.objs.size f c')) → MN (LamX.lamCx X A outer s H E scope f c') c W0 body fB) :
    ME X c W (.Call (.Name "_law_stays" p) [.Lambda params body scope lpos] [] pos) (staysE fB) := by
  obtain ⟨oc, od, kV, doc, pm, an, cdv, ct, osl, e, lk, hcd⟩ := T.F__law_stays.ex
  have hb := T.b__law_stays
  rw [e] at hb lk
  exact me_stays hg T.g__law_stays T.F__law_stays.kp lk hcd hb sc__law_stays rfl (.inl rfl) (stays_gv rfl rfl rfl rfl rfl T.z_isinstance T.z_list hr3 rfl rfl) hqo TB hcode hT hr L hdef hbind hbody
def tl0_is_whole : Rho → Out := (sRet (andV (e1 (isiE .int) (bnm 0)) (andV (notV (e1 (isiE .bool) (bnm 0))) (bv (chE leD leD (bnm 1) (bnm 0) (bnm 2))))))
def m_is_whole : List D → Out := fnM0 3 3 (tl0_is_whole)
theorem ok_is_whole (T : Txt K mg) : FnOk Pr w K mg base CX0 1 T.a_is_whole T.d_is_whole ["thing", "low", "high"] (spM K ns mg m_is_whole) := by
  refine fnOk T.F_is_whole sc_is_whole (fun cdv A outer s H E c hc hr => ?_)
  subst hc
  exact (mss_one (ms_ret (me_and (mb (me_isi .int (by rfl) T.z_isinstance bt_isinstance (mb_name 0 (pv 0)) (pe_bltn (by rfl) T.z_int bt_int rfl))) (me_and (mb (me_not (mb (me_isi .bool (by rfl) T.z_isinstance bt_isinstance (mb_name 0 (pv 0)) (pe_bltn (by rfl) T.z_bool bt_bool rfl))))) (me_one (me_chain op_le op_le cmd_le cmd_le (mb_name 1 (pv 1)) (mb_name 0 (pv 0)) (mb_name 2 (pv 2))))))))
def tl0_is_sample : Rho → Out := (sRetN (ncall m_is_whole (cons' (nm 0) (cons' (cst (.int 0)) (cons' (cst (.int 3)) (cst []))))))
def m_is_sample : List D → Out := fnM0 1 1 (tl0_is_sample)
theorem ok_is_sample (T : Txt K mg) : FnOk Pr w K mg base CX0 2 T.a_is_sample T.d_is_sample ["thing"] (spM K ns mg m_is_sample) := by
  refine fnOk T.F_is_sample sc_is_sample (fun cdv A outer s H E c hc hr => ?_)
  subst hc
  exact (mss_one (ms_retN (mn_call (ok_is_whole T) (hr.mono (by decide)) (by rfl) T.g_is_whole T.F_is_whole.kp T.b_is_whole (ma_cons (me_name 0 (pv 0)) (ma_cons me_int (ma_cons me_int ma_nil))))))
def ce1_is_row : Rho → R D := (call m_is_sample (cons' (nm 1) (cst [])))
def tl0_is_row : Rho → Out := (sRet (andV (e1 (isiE .tuple) (bnm 0)) (andV (bv (chE leD leD (cst (.int 1)) (e1 lenD (cons' (bnm 0) (cst []))) (cst (.int 40)))) (e1 allD (cons' (lcD (lcE [1] (itE (nm 0)) (bName 1) yes ce1_is_row)) (cst []))))))
def m_is_row : List D → Out := fnM0 1 2 (tl0_is_row)
theorem ok_is_row (T : Txt K mg) : FnOk Pr w K mg base CX0 3 T.a_is_row T.d_is_row ["thing"] (spM K ns mg m_is_row) := by
  refine fnOk T.F_is_row sc_is_row (fun cdv A outer s H E c hc hr => ?_)
  subst hc
  exact (mss_one (ms_ret (me_and (mb (me_isi .tuple (by rfl) T.z_isinstance bt_isinstance (mb_name 0 (pv 0)) (pe_bltn (by rfl) T.z_tuple bt_tuple rfl))) (me_and (mb (me_chain op_le op_le cmd_le cmd_le (mb me_int) (mb (me_callB call_len cad_len (by rfl) T.z_len bt_len (mba_cons (mb_name 0 (pv 0)) mba_nil))) (mb (me_globI (by rfl) T.c_LONGEST)))) (me_one (me_callB (cr_all rfl) cad_all (by rfl) T.z_all bt_all (mba_cons (mb (me_lc (own := [("one", 1)]) rfl sc_is_row.nd (mi_of (me_name 0 (pv 0))) (blkOk_by (N := ["thing", "one"]) (sc := defScope s_is_row) (by decide +kernel)) (fun _ _ _ _ _ => (pg_name (i := 1) sc_is_row.nd rfl (by first | exact Or.inl rfl | exact Or.inr rfl))) (tg_name 1) (fun _ _ _ _ _ => pts_nil) (fun _ _ _ z => yes_ok z) (fun _ _ _ _ _ => (me_call (ok_is_sample T) (hr.mono (by decide)) (by rfl) T.g_is_sample T.F_is_sample.kp T.b_is_sample (ma_cons (me_name 1 (pv 1)) ma_nil))))) mba_nil)))))))
def tl0_look_row : Rho → Out := (sIf (notT (e1 asB (call m_is_row (cons' (nm 0) (cst []))))) sBad sNil)
def m_look_row : List D → Out := fnM0 1 1 (tl0_look_row)
theorem ok_look_row (T : Txt K mg) : FnOk Pr w K mg base CX0 4 T.a_look_row T.d_look_row ["row"] (spM K ns mg m_look_row) := by
  refine fnOk T.F_look_row sc_look_row (fun cdv A outer s H E c hc hr => ?_)
  subst hc
  exact (mss_one (ms_if (mt_not (mt_val (mb (me_call (ok_is_row T) (hr.mono (by decide)) (by rfl) T.g_is_row T.F_is_row.kp T.b_is_row (ma_cons (me_name 0 (pv 0)) ma_nil))))) (mss_one ms_never) mss_nil))
def tl0_far_on : Rho → Out := (sRet (e2 modD (e2 subD (e1 (idxK [0, 1, 3, 2]) (bnm 1)) (e1 (idxK [0, 1, 3, 2]) (bnm 0))) (cst (.int 4))))
def m_far_on : List D → Out := fnM0 2 2 (tl0_far_on)
theorem ok_far_on (T : Txt K mg) : FnOk Pr w K mg base CX0 1 T.a_far_on T.d_far_on ["one", "other"] (spM K ns mg m_far_on) := by
  refine fnOk T.F_far_on sc_far_on (fun cdv A outer s H E c hc hr => ?_)
  subst hc
  exact (mss_one (ms_ret (me_op op_mod opd_mod (mb (me_op op_sub opd_sub (mb (me_idxK T.c_ROUND (by rfl) fun h => pe_bm PySem.F.plainAttrs_tuple PySem.F.slot_tuple_index PySem.F.type_tuple_index mt_indexT h (pa_cons (mb_name 1 (pv 1)) pa_nil))) (mb (me_idxK T.c_ROUND (by rfl) fun h => pe_bm PySem.F.plainAttrs_tuple PySem.F.slot_tuple_index PySem.F.type_tuple_index mt_indexT h (pa_cons (mb_name 0 (pv 0)) pa_nil))))) (mb me_int))))
def tl0_step_between : Rho → Out := (sRet (e2 ixD (tupE (cons' (cst (.int 0)) (cons' (cst (.int 1)) (cons' (cst .none) (cons' (e1 negD (cst (.int 1))) (cst [])))))) (call m_far_on (cons' (nm 0) (cons' (nm 1) (cst []))))))
def m_step_between : List D → Out := fnM0 2 2 (tl0_step_between)
theorem ok_step_between (T : Txt K mg) : FnOk Pr w K mg base CX0 2 T.a_step_between T.d_step_between ["one", "other"] (spM K ns mg m_step_between) := by
  refine fnOk T.F_step_between sc_step_between (fun cdv A outer s H E c hc hr => ?_)
  subst hc
  exact (mss_one (ms_ret (me_ix ix_seq opd_ix (mb (me_tup (ma_cons me_int (ma_cons me_int (ma_cons me_non (ma_cons (me_neg (mb me_int)) ma_nil)))))) (mb (me_call (ok_far_on T) (hr.mono (by decide)) (by rfl) T.g_far_on T.F_far_on.kp T.b_far_on (ma_cons (me_name 0 (pv 0)) (ma_cons (me_name 1 (pv 1)) ma_nil)))) (fun _ _ => rfl))))
def ct1_jumps : Rho → R Bool := (e2 isD (call m_step_between (cons' (e2 ixD (bnm 0) (e2 subD (bnm 1) (cst (.int 1)))) (cons' (e2 ixD (bnm 0) (bnm 1)) (cst [])))) (cst .none))
def tl1_jumps : Rho → Out := (sRetN (nO (lcE [1] (rg2 (cst (.int 1)) (e1 lenD (cons' (bnm 0) (cst [])))) (bName 1) ct1_jumps (nm 1))))
def tl0_jumps : Rho → Out := (sSeq (sDrop (call m_look_row (cons' (nm 0) (cst [])))) tl1_jumps)
def m_jumps : List D → Out := fnM0 1 2 (tl0_jumps)
theorem ok_jumps (T : Txt K mg) : FnOk Pr w K mg base CX0 5 T.a_jumps T.d_jumps ["row"] (spM K ns mg m_jumps) := by
  refine fnOk T.F_jumps sc_jumps (fun cdv A outer s H E c hc hr => ?_)
  subst hc
  exact (mss_cons (ms_expr (mb (me_call (ok_look_row T) (hr.mono (by decide)) (by rfl) T.g_look_row T.F_look_row.kp T.b_look_row (ma_cons (me_name 0 (pv 0)) ma_nil))))
    (mss_one (ms_retN (mn_lc (own := [("number", 1)]) rfl sc_jumps.nd (mi_range2 (by rfl) T.z_range (mb me_int) (mb (me_callB call_len cad_len (by rfl) T.z_len bt_len (mba_cons (mb_name 0 (pv 0)) mba_nil)))) (blkOk_by (N := ["row", "number"]) (sc := defScope s_jumps) (by decide +kernel)) (fun _ _ _ _ _ => (pg_name (i := 1) sc_jumps.nd rfl (by first | exact Or.inl rfl | exact Or.inr rfl))) (tg_name 1) (fun _ _ _ _ _ => (pts_one (mt_cmp opr_is cmd_is (mb (me_call (ok_step_between T) (hr.mono (by decide)) (by rfl) T.g_step_between T.F_step_between.kp T.b_step_between (ma_cons (me_ix ix_seq opd_ix (mb_name 0 (pv 0)) (mb (me_op op_sub opd_sub (mb_name 1 (pv 1)) (mb me_int))) (fun _ _ => rfl)) (ma_cons (me_ix ix_seq opd_ix (mb_name 0 (pv 0)) (mb_name 1 (pv 1)) (fun _ _ => rfl)) ma_nil)))) (mb me_non) (nomark _)))) (fun _ _ _ z => z) (fun _ _ _ _ _ => (me_name 1 (pv 1)))))))
def lb1_bounces : Rho → Out := (sIf (andT (e2 eqD (e2 ixD (bnm 0) (e2 subD (bnm 2) (cst (.int 1)))) (e2 ixD (bnm 0) (e2 addD (bnm 2) (cst (.int 1))))) (e2 inD (call m_step_between (cons' (e2 ixD (bnm 0) (e2 subD (bnm 2) (cst (.int 1)))) (cons' (e2 ixD (bnm 0) (bnm 2)) (cst [])))) (tupE (cons' (cst (.int 1)) (cons' (e1 negD (cst (.int 1))) (cst [])))))) (sApp 1 (nm 2)) sNil)
def tl3_bounces : Rho → Out := (own 1)
def tl2_bounces : Rho → Out := (sSeq (sFor (rg2 (cst (.int 1)) (e2 subD (e1 lenD (cons' (bnm 0) (cst []))) (cst (.int 1)))) (bName 2) lb1_bounces) tl3_bounces)
def tl1_bounces : Rho → Out := (sSeq (sSet 1 (nLst (cst []))) tl2_bounces)
def tl0_bounces : Rho → Out := (sSeq (sDrop (call m_look_row (cons' (nm 0) (cst [])))) tl1_bounces)
def m_bounces : List D → Out := fnM0 1 3 (tl0_bounces)
theorem ok_bounces (T : Txt K mg) : FnOk Pr w K mg base CX0 5 T.a_bounces T.d_bounces ["row"] (spM K ns mg m_bounces) := by
  refine fnOk T.F_bounces sc_bounces (fun cdv A outer s H E c hc hr => ?_)
  subst hc
  exact (mss_cons (ms_expr (mb (me_call (ok_look_row T) (hr.mono (by decide)) (by rfl) T.g_look_row T.F_look_row.kp T.b_look_row (ma_cons (me_name 0 (pv 0)) ma_nil))))
    (mss_cons (ms_set (i := 1) sc_bounces.nd rfl (by first | exact Or.inl rfl | exact Or.inr rfl) (mn_lst ma_nil))
    (mss_cons (ms_for (vs := [2]) PassesOwn.never rfl (mi_range2 (by rfl) T.z_range (mb me_int) (mb (me_op op_sub opd_sub (mb (me_callB call_len cad_len (by rfl) T.z_len bt_len (mba_cons (mb_name 0 (pv 0)) mba_nil))) (mb me_int)))) (pg_name (i := 2) sc_bounces.nd rfl (by first | exact Or.inl rfl | exact Or.inr rfl)) (tg_name 2) (mss_one (ms_if (mt_w (mw_and (mt_cmp (op_eqD hr.units) cmd_eq (mb (me_ix ix_seq opd_ix (mb_name 0 (pv 0)) (mb (me_op op_sub opd_sub (mb_name 2 (pv 2)) (mb me_int))) (fun _ _ => rfl))) (mb (me_ix ix_seq opd_ix (mb_name 0 (pv 0)) (mb (me_op opr_add opd_add (mb_name 2 (pv 2)) (mb me_int))) (fun _ _ => rfl))) (nomark _)) (mw_and1 (mt_cmp (opr_in (units65 hr)) cmd_in (mb (me_call (ok_step_between T) (hr.mono (by decide)) (by rfl) T.g_step_between T.F_step_between.kp T.b_step_between (ma_cons (me_ix ix_seq opd_ix (mb_name 0 (pv 0)) (mb (me_op op_sub opd_sub (mb_name 2 (pv 2)) (mb me_int))) (fun _ _ => rfl)) (ma_cons (me_ix ix_seq opd_ix (mb_name 0 (pv 0)) (mb_name 2 (pv 2)) (fun _ _ => rfl)) ma_nil)))) (mb (me_tup (ma_cons me_int (ma_cons (me_neg (mb me_int)) ma_nil)))) (by rfl))))) (mss_one (ms_app (pe_bm PySem.F.plainAttrs_list PySem.F.slot_list_append PySem.F.type_list_append mt_append (pv 1) (pa_cons (me_name 2 (pv 2)) pa_nil)))) mss_nil)))
    (mss_one (ms_retO 1 (pv 1))))))
def lb1_fitting : Rho → Out := (sIf (andT (e2 isntD (e2 ixD (bnm 1) (bnm 4)) (cst .none)) (e2 isntD (call m_step_between (cons' (e2 ixD (bnm 0) (bnm 4)) (cons' (e2 ixD (bnm 0) (bnm 2)) (cst [])))) (cst .none))) (sSeq (sSet 5 (nD (e2 addD (e2 ixD (bnm 1) (bnm 4)) (lstE (cons' (nm 2) (cst []))))))
    (sIf (orT (e2 isD (e2 ixD (bnm 1) (bnm 2)) (cst .none)) (e2 ltAD (tupE (cons' (e2 subD (cst (.int 0)) (e1 lenD (cons' (bnm 5) (cst [])))) (cons' (nm 5) (cst [])))) (tupE (cons' (e2 subD (cst (.int 0)) (e1 lenD (cons' (e2 ixD (bnm 1) (bnm 2)) (cst [])))) (cons' (e2 ixD (bnm 1) (bnm 2)) (cst [])))))) (sPut 1 (bnm 2) (nm 5)) sNil)) sNil)
def lb2_fitting : Rho → Out := (sFor (rg1 (bnm 2)) (bName 4) lb1_fitting)
def ce3_fitting : Rho → R D := (tupE (cons' (e2 subD (cst (.int 0)) (e1 lenD (cons' (bnm 5) (cst [])))) (cons' (nm 5) (cst []))))
def tl5_fitting : Rho → Out := (sRet (e2 ixD (e2 ixD (bnm 3) (cst (.int 0))) (cst (.int 1))))
def tl4_fitting : Rho → Out := (sSeq (sFrz 1 (sSet 3 (nD (e1 sortPD (cons' (lcD (lcE [5] (itE (nm 1)) (bName 5) (e2 isntD (bnm 5) (cst .none)) ce3_fitting)) (cst [])))))) tl5_fitting)
def tl3_fitting : Rho → Out := (sSeq (sFor (rg2 (cst (.int 1)) (e1 lenD (cons' (bnm 0) (cst [])))) (bName 2) lb2_fitting) tl4_fitting)
def tl2_fitting : Rho → Out := (sSeq (sPut 1 (cst (.int 0)) (lstE (cons' (cst (.int 0)) (cst [])))) tl3_fitting)
def tl1_fitting : Rho → Out := (sSeq (sSet 1 (nO (e2 repN (lstE (cons' (cst .none) (cst []))) (e1 lenD (cons' (bnm 0) (cst [])))))) tl2_fitting)
def tl0_fitting : Rho → Out := (sSeq (sDrop (call m_look_row (cons' (nm 0) (cst [])))) tl1_fitting)
def m_fitting : List D → Out := fnM0 1 6 (tl0_fitting)
theorem ok_fitting (T : Txt K mg) : FnOk Pr w K mg base CX0 5 T.a_fitting T.d_fitting ["row"] (spM K ns mg m_fitting) := by
  refine fnOk T.F_fitting sc_fitting (fun cdv A outer s H E c hc hr => ?_)
  subst hc
  exact (mss_cons (ms_expr (mb (me_call (ok_look_row T) (hr.mono (by decide)) (by rfl) T.g_look_row T.F_look_row.kp T.b_look_row (ma_cons (me_name 0 (pv 0)) ma_nil))))
    (mss_cons (ms_set (i := 1) sc_fitting.nd rfl (by first | exact Or.inl rfl | exact Or.inr rfl) (mn_op op_rep opn_rep (mb (me_lst (ma_cons me_non ma_nil))) (mb (me_callB call_len cad_len (by rfl) T.z_len bt_len (mba_cons (mb_name 0 (pv 0)) mba_nil)))))
    (mss_cons (ms_put (i := 1) (pv 1) (mb me_int) (me_lst (ma_cons me_int ma_nil)) (pg_sub (pv 1) (mb me_int) set_list))
    (mss_cons (ms_for (vs := [2]) PassesOwn.never rfl (mi_range2 (by rfl) T.z_range (mb me_int) (mb (me_callB call_len cad_len (by rfl) T.z_len bt_len (mba_cons (mb_name 0 (pv 0)) mba_nil)))) (pg_name (i := 2) sc_fitting.nd rfl (by first | exact Or.inl rfl | exact Or.inr rfl)) (tg_name 2) (mss_one (ms_for (vs := [4]) PassesOwn.never rfl (mi_range1 (by rfl) T.z_range (mb_name 2 (pv 2))) (pg_name (i := 4) sc_fitting.nd rfl (by first | exact Or.inl rfl | exact Or.inr rfl)) (tg_name 4) (mss_one (ms_if (mt_w (mw_and (mt_cmp opr_isnt cmd_isnt (mb (me_ix ix_seq opd_ix (mb_name 1 (pv 1)) (mb_name 4 (pv 4)) (fun _ _ => rfl))) (mb me_non) (nomark _)) (mw_and1 (mt_cmp opr_isnt cmd_isnt (mb (me_call (ok_step_between T) (hr.mono (by decide)) (by rfl) T.g_step_between T.F_step_between.kp T.b_step_between (ma_cons (me_ix ix_seq opd_ix (mb_name 0 (pv 0)) (mb_name 4 (pv 4)) (fun _ _ => rfl)) (ma_cons (me_ix ix_seq opd_ix (mb_name 0 (pv 0)) (mb_name 2 (pv 2)) (fun _ _ => rfl)) ma_nil)))) (mb me_non) (nomark _))))) (mss_cons (ms_set (i := 5) sc_fitting.nd rfl (by first | exact Or.inl rfl | exact Or.inr rfl) (mn_d (me_op opr_add opd_add (mb (me_ix ix_seq opd_ix (mb_name 1 (pv 1)) (mb_name 4 (pv 4)) (fun _ _ => rfl))) (mb (me_lst (ma_cons (me_name 2 (pv 2)) ma_nil))))))
    (mss_one (ms_if (mt_w (mw_or (mt_cmp opr_is cmd_is (mb (me_ix ix_seq opd_ix (mb_name 1 (pv 1)) (mb_name 2 (pv 2)) (fun _ _ => rfl))) (mb me_non) (nomark _)) (mw_or1 (mt_cmp (op_ltD (units65 hr)) cmd_ltA (mb (me_tup (ma_cons (me_op op_sub opd_sub (mb me_int) (mb (me_callB call_len cad_len (by rfl) T.z_len bt_len (mba_cons (mb_name 5 (pv 5)) mba_nil)))) (ma_cons (me_name 5 (pv 5)) ma_nil)))) (mb (me_tup (ma_cons (me_op op_sub opd_sub (mb me_int) (mb (me_callB call_len cad_len (by rfl) T.z_len bt_len (mba_cons (mb (me_ix ix_seq opd_ix (mb_name 1 (pv 1)) (mb_name 2 (pv 2)) (fun _ _ => rfl))) mba_nil)))) (ma_cons (me_ix ix_seq opd_ix (mb_name 1 (pv 1)) (mb_name 2 (pv 2)) (fun _ _ => rfl)) ma_nil)))) (nomark _))))) (mss_one (ms_put (i := 1) (pv 1) (mb_name 2 (pv 2)) (me_name 5 (pv 5)) (pg_sub (pv 1) (mb_name 2 (pv 2)) set_list))) mss_nil))) mss_nil)))))
    (mss_cons (ms_frz 1 (ms_set (i := 3) sc_fitting.nd rfl (by first | exact Or.inl rfl | exact Or.inr rfl) (mn_d (me_callB (cr_sortP (units70 hr)) cad_sortP (by rfl) T.z_sorted bt_sorted (mba_cons (mb (me_lc (own := [("some", 5)]) rfl sc_fitting.nd (mi_of (me_name 1 (pv 1))) (blkOk_by (N := ["row", "best", "number", "ranked", "ahead", "some"]) (sc := defScope s_fitting) (by decide +kernel)) (fun _ _ _ _ _ => (pg_name (i := 5) sc_fitting.nd rfl (by first | exact Or.inl rfl | exact Or.inr rfl))) (tg_name 5) (fun _ _ _ _ _ => (pts_one (mt_cmp opr_isnt cmd_isnt (mb_name 5 (pv 5)) (mb me_non) (nomark _)))) (fun _ _ _ z => z) (fun _ _ _ _ _ => (me_tup (ma_cons (me_op op_sub opd_sub (mb me_int) (mb (me_callB call_len cad_len (by rfl) T.z_len bt_len (mba_cons (mb_name 5 (pv 5)) mba_nil)))) (ma_cons (me_name 5 (pv 5)) ma_nil)))))) mba_nil)))))
    (mss_one (ms_ret (me_ix ix_seq opd_ix (mb (me_ix ix_seq opd_ix (mb_name 3 (pv 3)) (mb me_int) (fun _ _ => rfl))) (mb me_int) (fun _ _ => rfl)))))))))
def lb1_settled : Rho → Out := (sSeq (sIf (andT (e2 geD (e2 addD (bnm 4) (cst (.int 1))) (bnm 1)) (e2 eqD (e1 lenSetD (slE (bnm 0) (e1 asI (e2 subD (e2 addD (bnm 4) (cst (.int 1))) (bnm 1))) (e1 asI (e2 addD (bnm 4) (cst (.int 1)))))) (cst (.int 1)))) (sSet 3 (nD (e2 ixD (bnm 0) (bnm 4)))) sNil)
    (sApp 2 (nm 3)))
def tl5_settled : Rho → Out := (own 2)
def tl4_settled : Rho → Out := (sSeq (sFor (rg1 (e1 lenD (cons' (bnm 0) (cst [])))) (bName 4) lb1_settled) tl5_settled)
def tl3_settled : Rho → Out := (sSeq (sSet 3 (nD (cst .none))) tl4_settled)
def tl2_settled : Rho → Out := (sSeq (sSet 2 (nLst (cst []))) tl3_settled)
def tl1_settled : Rho → Out := (sSeq (sIf (notT (e1 asB (call m_is_whole (cons' (nm 1) (cons' (cst (.int 1)) (cons' (cst (.int 40)) (cst []))))))) sBad sNil) tl2_settled)
def tl0_settled : Rho → Out := (sSeq (sDrop (call m_look_row (cons' (nm 0) (cst [])))) tl1_settled)
def m_settled : List D → Out := fnM0 2 5 (tl0_settled)
theorem ok_settled (T : Txt K mg) : FnOk Pr w K mg base CX0 5 T.a_settled T.d_settled ["row", "many"] (spM K ns mg m_settled) := by
  refine fnOk T.F_settled sc_settled (fun cdv A outer s H E c hc hr => ?_)
  subst hc
  exact (mss_cons (ms_expr (mb (me_call (ok_look_row T) (hr.mono (by decide)) (by rfl) T.g_look_row T.F_look_row.kp T.b_look_row (ma_cons (me_name 0 (pv 0)) ma_nil))))
    (mss_cons (ms_if (mt_not (mt_val (mb (me_call (ok_is_whole T) (hr.mono (by decide)) (by rfl) T.g_is_whole T.F_is_whole.kp T.b_is_whole (ma_cons (me_name 1 (pv 1)) (ma_cons me_int (ma_cons (me_globI (by rfl) T.c_LONGEST) ma_nil))))))) (mss_one ms_never) mss_nil)
    (mss_cons (ms_set (i := 2) sc_settled.nd rfl (by first | exact Or.inl rfl | exact Or.inr rfl) (mn_lst ma_nil))
    (mss_cons (ms_set (i := 3) sc_settled.nd rfl (by first | exact Or.inl rfl | exact Or.inr rfl) (mn_d me_non))
    (mss_cons (ms_for (vs := [4]) PassesOwn.never rfl (mi_range1 (by rfl) T.z_range (mb (me_callB call_len cad_len (by rfl) T.z_len bt_len (mba_cons (mb_name 0 (pv 0)) mba_nil)))) (pg_name (i := 4) sc_settled.nd rfl (by first | exact Or.inl rfl | exact Or.inr rfl)) (tg_name 4) (mss_cons (ms_if (mt_w (mw_and (mt_cmp op_ge cmd_ge (mb (me_op opr_add opd_add (mb_name 4 (pv 4)) (mb me_int))) (mb_name 1 (pv 1)) (nomark _)) (mw_and1 (mt_cmp (op_eqD hr.units) cmd_eq (mb (me_lenSet rfl (by rfl) T.z_len (by rfl) T.z_set (mb (me_slice (mb_name 0 (pv 0)) (mo_some (mb (me_op op_sub opd_sub (mb (me_op opr_add opd_add (mb_name 4 (pv 4)) (mb me_int))) (mb_name 1 (pv 1))))) (mo_some (mb (me_op opr_add opd_add (mb_name 4 (pv 4)) (mb me_int)))))))) (mb me_int) (nomark _))))) (mss_one (ms_set (i := 3) sc_settled.nd rfl (by first | exact Or.inl rfl | exact Or.inr rfl) (mn_d (me_ix ix_seq opd_ix (mb_name 0 (pv 0)) (mb_name 4 (pv 4)) (fun _ _ => rfl))))) mss_nil)
    (mss_one (ms_app (pe_bm PySem.F.plainAttrs_list PySem.F.slot_list_append PySem.F.type_list_append mt_append (pv 2) (pa_cons (me_name 3 (pv 3)) pa_nil))))))
    (mss_one (ms_retO 2 (pv 2))))))))
def ce1_look_moves : Rho → R D := (call m_is_whole (cons' (nm 2) (cons' (e2 subD (cst (.int 0)) (cst (.int 99))) (cons' (cst (.int 99)) (cst [])))))
def tl2_look_moves : Rho → Out := (sIf (notT (e1 asB (call m_is_whole (cons' (nm 1) (cons' (cst (.int 0)) (cons' (cst (.int 9)) (cst []))))))) sBad sNil)
def tl1_look_moves : Rho → Out := (sSeq (sIf (notT (e1 asB (e1 allD (cons' (lcD (lcE [2] (itE (nm 0)) (bName 2) yes ce1_look_moves)) (cst []))))) sBad sNil) tl2_look_moves)
def tl0_look_moves : Rho → Out := (sSeq (sIf (orT (notT (e1 asB (e1 (isiTE .list .tuple) (bnm 0)))) (e2 gtD (e1 lenD (cons' (bnm 0) (cst []))) (cst (.int 40)))) sBad sNil) tl1_look_moves)
def m_look_moves : List D → Out := fnM0 2 3 (tl0_look_moves)
theorem ok_look_moves (T : Txt K mg) : FnOk Pr w K mg base CX0 2 T.a_look_moves T.d_look_moves ["moves", "play"] (spM K ns mg m_look_moves) := by
  refine fnOk T.F_look_moves sc_look_moves (fun cdv A outer s H E c hc hr => ?_)
  subst hc
  exact (mss_cons (ms_if (mt_w (mw_or (mt_not (mt_val (mb (me_isiT .list .tuple (by rfl) T.z_isinstance bt_isinstance (mb_name 0 (pv 0)) (pe_bltn (by rfl) T.z_list bt_list rfl) (pe_bltn (by rfl) T.z_tuple bt_tuple rfl))))) (mw_or1 (mt_cmp op_gt cmd_gt (mb (me_callB call_len cad_len (by rfl) T.z_len bt_len (mba_cons (mb_name 0 (pv 0)) mba_nil))) (mb (me_globI (by rfl) T.c_MOST_MOVES)) (nomark _))))) (mss_one ms_never) mss_nil)
    (mss_cons (ms_if (mt_not (mt_val (mb (me_callB (cr_all rfl) cad_all (by rfl) T.z_all bt_all (mba_cons (mb (me_lc (own := [("one", 2)]) rfl sc_look_moves.nd (mi_of (me_name 0 (pv 0))) (blkOk_by (N := ["moves", "play", "one"]) (sc := defScope s_look_moves) (by decide +kernel)) (fun _ _ _ _ _ => (pg_name (i := 2) sc_look_moves.nd rfl (by first | exact Or.inl rfl | exact Or.inr rfl))) (tg_name 2) (fun _ _ _ _ _ => pts_nil) (fun _ _ _ z => yes_ok z) (fun _ _ _ _ _ => (me_call (ok_is_whole T) (hr.mono (by decide)) (by rfl) T.g_is_whole T.F_is_whole.kp T.b_is_whole (ma_cons (me_name 2 (pv 2)) (ma_cons (me_op op_sub opd_sub (mb me_int) (mb (me_globI (by rfl) T.c_FARTHEST))) (ma_cons (me_globI (by rfl) T.c_FARTHEST) ma_nil))))))) mba_nil))))) (mss_one ms_never) mss_nil)
    (mss_one (ms_if (mt_not (mt_val (mb (me_call (ok_is_whole T) (hr.mono (by decide)) (by rfl) T.g_is_whole T.F_is_whole.kp T.b_is_whole (ma_cons (me_name 1 (pv 1)) (ma_cons me_int (ma_cons (me_globI (by rfl) T.c_MOST_PLAY) ma_nil))))))) (mss_one ms_never) mss_nil))))
def lb1_go_along : Rho → Out := (sSeq (sSet 5 (nD (e2 addD (bnm 5) (bnm 4))))
    (sSeq (sSet 3 (nD (e1 maxD (cons' (e2 subD (bnm 5) (bnm 1)) (cons' (e1 minD (cons' (bnm 5) (cons' (bnm 3) (cst [])))) (cst []))))))
    (sApp 6 (nm 3))))
def tl3_go_along : Rho → Out := (own 6)
def tl2_go_along : Rho → Out := (sSeq (sFor (itE (nm 0)) (bName 4) lb1_go_along) tl3_go_along)
def tl1_go_along : Rho → Out := (sSeq (sSet 3 (nD (cst (.int 0)))) tl2_go_along)
def tl0_go_along : Rho → Out := (sSeq (sPar 5 6 (nD (nm 2)) (nLst (cst []))) tl1_go_along)
def m_go_along : List D → Out := fnM0 3 7 (tl0_go_along)
theorem ok_go_along (T : Txt K mg) : FnOk Pr w K mg base CX0 1 T.a_go_along T.d_go_along ["moves", "play", "begin"] (spM K ns mg m_go_along) := by
  refine fnOk T.F_go_along sc_go_along (fun cdv A outer s H E c hc hr => ?_)
  subst hc
  exact (mss_cons (ms_par (i := 5) (j := 6) rfl sc_go_along.nd rfl rfl (by decide) rfl rfl (mn_d (me_name 2 (pv 2))) (mn_lst ma_nil) (by rfl))
    (mss_cons (ms_set (i := 3) sc_go_along.nd rfl (by first | exact Or.inl rfl | exact Or.inr rfl) (mn_d me_int))
    (mss_cons (ms_for (vs := [4]) PassesOwn.never rfl (mi_of (me_name 0 (pv 0))) (pg_name (i := 4) sc_go_along.nd rfl (by first | exact Or.inl rfl | exact Or.inr rfl)) (tg_name 4) (mss_cons (ms_set (i := 5) sc_go_along.nd rfl (by first | exact Or.inl rfl | exact Or.inr rfl) (mn_d (me_op opr_add opd_add (mb_name 5 (pv 5)) (mb_name 4 (pv 4)))))
    (mss_cons (ms_set (i := 3) sc_go_along.nd rfl (by first | exact Or.inl rfl | exact Or.inr rfl) (mn_d (me_callB (car_max rfl) cad_max (by rfl) T.z_max bt_max (mba_cons (mb (me_op op_sub opd_sub (mb_name 5 (pv 5)) (mb_name 1 (pv 1)))) (mba_cons (mb (me_callB (car_min rfl) cad_min (by rfl) T.z_min bt_min (mba_cons (mb_name 5 (pv 5)) (mba_cons (mb_name 3 (pv 3)) mba_nil)))) mba_nil)))))
    (mss_one (ms_app (pe_bm PySem.F.plainAttrs_list PySem.F.slot_list_append PySem.F.type_list_append mt_append (pv 6) (pa_cons (me_name 3 (pv 3)) pa_nil)))))))
    (mss_one (ms_retO 6 (pv 6))))))
def tl2_followed : Rho → Out := (sRetN (ncall m_go_along (cons' (nm 0) (cons' (nm 1) (cons' (nm 2) (cst []))))))
def tl1_followed : Rho → Out := (sSeq (sIf (notT (e1 asB (call m_is_whole (cons' (nm 2) (cons' (cst (.int 0)) (cons' (nm 1) (cst []))))))) sBad sNil) tl2_followed)
def tl0_followed : Rho → Out := (sSeq (sDrop (call m_look_moves (cons' (nm 0) (cons' (nm 1) (cst []))))) tl1_followed)
def m_followed : List D → Out := fnM0 3 3 (tl0_followed)
theorem ok_followed (T : Txt K mg) : FnOk Pr w K mg base CX0 3 T.a_followed T.d_followed ["moves", "play", "begin"] (spM K ns mg m_followed) := by
  refine fnOk T.F_followed sc_followed (fun cdv A outer s H E c hc hr => ?_)
  subst hc
  exact (mss_cons (ms_expr (mb (me_call (ok_look_moves T) (hr.mono (by decide)) (by rfl) T.g_look_moves T.F_look_moves.kp T.b_look_moves (ma_cons (me_name 0 (pv 0)) (ma_cons (me_name 1 (pv 1)) ma_nil)))))
    (mss_cons (ms_if (mt_not (mt_val (mb (me_call (ok_is_whole T) (hr.mono (by decide)) (by rfl) T.g_is_whole T.F_is_whole.kp T.b_is_whole (ma_cons (me_name 2 (pv 2)) (ma_cons me_int (ma_cons (me_name 1 (pv 1)) ma_nil))))))) (mss_one ms_never) mss_nil)
    (mss_one (ms_retN (mn_call (ok_go_along T) (hr.mono (by decide)) (by rfl) T.g_go_along T.F_go_along.kp T.b_go_along (ma_cons (me_name 0 (pv 0)) (ma_cons (me_name 1 (pv 1)) (ma_cons (me_name 2 (pv 2)) ma_nil))))))))
def ce1_all_ends : Rho → R D := (e2 ixD (e2 addD (call m_go_along (cons' (nm 0) (cons' (nm 1) (cons' (nm 2) (cst []))))) (lstE (cons' (cst (.int 0)) (cst [])))) (e2 subD (e1 lenD (cons' (bnm 0) (cst []))) (cst (.int 1))))
def tl1_all_ends : Rho → Out := (sRetN (nL (e1 sortSetD (lcD (lcE [2] (rg1 (e2 addD (bnm 1) (cst (.int 1)))) (bName 2) yes ce1_all_ends)))))
def tl0_all_ends : Rho → Out := (sSeq (sDrop (call m_look_moves (cons' (nm 0) (cons' (nm 1) (cst []))))) tl1_all_ends)
def m_all_ends : List D → Out := fnM0 2 3 (tl0_all_ends)
theorem ok_all_ends (T : Txt K mg) : FnOk Pr w K mg base CX0 3 T.a_all_ends T.d_all_ends ["moves", "play"] (spM K ns mg m_all_ends) := by
  refine fnOk T.F_all_ends sc_all_ends (fun cdv A outer s H E c hc hr => ?_)
  subst hc
  exact (mss_cons (ms_expr (mb (me_call (ok_look_moves T) (hr.mono (by decide)) (by rfl) T.g_look_moves T.F_look_moves.kp T.b_look_moves (ma_cons (me_name 0 (pv 0)) (ma_cons (me_name 1 (pv 1)) ma_nil)))))
    (mss_one (ms_retN (mn_sortSet rfl (by rfl) T.z_sorted (by rfl) T.z_set (mb (me_lc (own := [("begin", 2)]) rfl sc_all_ends.nd (mi_range1 (by rfl) T.z_range (mb (me_op opr_add opd_add (mb_name 1 (pv 1)) (mb me_int)))) (blkOk_by (N := ["moves", "play", "begin"]) (sc := defScope s_all_ends) (by decide +kernel)) (fun _ _ _ _ _ => (pg_name (i := 2) sc_all_ends.nd rfl (by first | exact Or.inl rfl | exact Or.inr rfl))) (tg_name 2) (fun _ _ _ _ _ => pts_nil) (fun _ _ _ z => yes_ok z) (fun _ _ _ _ _ => (me_ix ix_seq opd_ix (mb (me_op opr_add opd_add (mb (me_call (ok_go_along T) (hr.mono (by decide)) (by rfl) T.g_go_along T.F_go_along.kp T.b_go_along (ma_cons (me_name 0 (pv 0)) (ma_cons (me_name 1 (pv 1)) (ma_cons (me_name 2 (pv 2)) ma_nil))))) (mb (me_lst (ma_cons me_int ma_nil))))) (mb (me_op op_sub opd_sub (mb (me_callB call_len cad_len (by rfl) T.z_len bt_len (mba_cons (mb_name 0 (pv 0)) mba_nil))) (mb me_int))) (fun _ _ => rfl)))))))))
def ct1_lost_moves : Rho → R Bool := (andT (e2 neD (e2 ixD (bnm 0) (bnm 4)) (cst (.int 0))) (e2 eqD (e2 ixD (bnm 3) (bnm 4)) (e2 ixD (bnm 3) (e2 addD (bnm 4) (cst (.int 1))))))
def tl1_lost_moves : Rho → Out := (sRetN (nO (lcE [4] (rg1 (e1 lenD (cons' (bnm 0) (cst [])))) (bName 4) ct1_lost_moves (nm 4))))
def tl0_lost_moves : Rho → Out := (sSeq (sSet 3 (nD (e2 addD (lstE (cons' (cst (.int 0)) (cst []))) (call m_followed (cons' (nm 0) (cons' (nm 1) (cons' (nm 2) (cst [])))))))) tl1_lost_moves)
def m_lost_moves : List D → Out := fnM0 3 5 (tl0_lost_moves)
theorem ok_lost_moves (T : Txt K mg) : FnOk Pr w K mg base CX0 4 T.a_lost_moves T.d_lost_moves ["moves", "play", "begin"] (spM K ns mg m_lost_moves) := by
  refine fnOk T.F_lost_moves sc_lost_moves (fun cdv A outer s H E c hc hr => ?_)
  subst hc
  exact (mss_cons (ms_set (i := 3) sc_lost_moves.nd rfl (by first | exact Or.inl rfl | exact Or.inr rfl) (mn_d (me_op opr_add opd_add (mb (me_lst (ma_cons me_int ma_nil))) (mb (me_call (ok_followed T) (hr.mono (by decide)) (by rfl) T.g_followed T.F_followed.kp T.b_followed (ma_cons (me_name 0 (pv 0)) (ma_cons (me_name 1 (pv 1)) (ma_cons (me_name 2 (pv 2)) ma_nil))))))))
    (mss_one (ms_retN (mn_lc (own := [("number", 4)]) rfl sc_lost_moves.nd (mi_range1 (by rfl) T.z_range (mb (me_callB call_len cad_len (by rfl) T.z_len bt_len (mba_cons (mb_name 0 (pv 0)) mba_nil)))) (blkOk_by (N := ["moves", "play", "begin", "some", "number"]) (sc := defScope s_lost_moves) (by decide +kernel)) (fun _ _ _ _ _ => (pg_name (i := 4) sc_lost_moves.nd rfl (by first | exact Or.inl rfl | exact Or.inr rfl))) (tg_name 4) (fun _ _ _ _ _ => (pts_one (mt_w (mw_and (mt_cmp (op_neD hr.units) cmd_ne (mb (me_ix ix_seq opd_ix (mb_name 0 (pv 0)) (mb_name 4 (pv 4)) (fun _ _ => rfl))) (mb me_int) (nomark _)) (mw_and1 (mt_cmp (op_eqD hr.units) cmd_eq (mb (me_ix ix_seq opd_ix (mb_name 3 (pv 3)) (mb_name 4 (pv 4)) (fun _ _ => rfl))) (mb (me_ix ix_seq opd_ix (mb_name 3 (pv 3)) (mb (me_op opr_add opd_add (mb_name 4 (pv 4)) (mb me_int))) (fun _ _ => rfl))) (nomark _))))))) (fun _ _ _ z => z) (fun _ _ _ _ _ => (me_name 4 (pv 4)))))))
def lb1_power : Rho → Out := (sSet 1 (nD (e2 mulD (bnm 1) (cst (.int 2)))))
def tl2_power : Rho → Out := (sRet (nm 1))
def tl1_power : Rho → Out := (sSeq (sFor (rg1 (bnm 0)) (bName 2) lb1_power) tl2_power)
def tl0_power : Rho → Out := (sSeq (sSet 1 (nD (cst (.int 1)))) tl1_power)
def m_power : List D → Out := fnM0 1 3 (tl0_power)
theorem ok_power (T : Txt K mg) : FnOk Pr w K mg base CX0 1 T.a_power T.d_power ["many"] (spM K ns mg m_power) := by
  refine fnOk T.F_power sc_power (fun cdv A outer s H E c hc hr => ?_)
  subst hc
  exact (mss_cons (ms_set (i := 1) sc_power.nd rfl (by first | exact Or.inl rfl | exact Or.inr rfl) (mn_d me_int))
    (mss_cons (ms_for (vs := [2]) PassesOwn.never rfl (mi_range1 (by rfl) T.z_range (mb_name 0 (pv 0))) (pg_name (i := 2) sc_power.nd rfl (by first | exact Or.inl rfl | exact Or.inr rfl)) (tg_name 2) (mss_one (ms_set (i := 1) sc_power.nd rfl (by first | exact Or.inl rfl | exact Or.inr rfl) (mn_d (me_op opr_mul opd_mul (mb_name 1 (pv 1)) (mb me_int))))))
    (mss_one (ms_ret (me_name 1 (pv 1))))))
def ct1_unlike_tracks : Rho → R Bool := (e2 neD (e2 modD (e2 fdivD (bnm 0) (call m_power (cons' (nm 3) (cst [])))) (cst (.int 2))) (e2 modD (e2 fdivD (bnm 1) (call m_power (cons' (nm 3) (cst [])))) (cst (.int 2))))
def tl0_unlike_tracks : Rho → Out := (sRetN (nO (lcE [3] (rg1 (bnm 2)) (bName 3) ct1_unlike_tracks (nm 3))))
def m_unlike_tracks : List D → Out := fnM0 3 4 (tl0_unlike_tracks)
theorem ok_unlike_tracks (T : Txt K mg) : FnOk Pr w K mg base CX0 2 T.a_unlike_tracks T.d_unlike_tracks ["one", "other", "many"] (spM K ns mg m_unlike_tracks) := by
  refine fnOk T.F_unlike_tracks sc_unlike_tracks (fun cdv A outer s H E c hc hr => ?_)
  subst hc
  exact (mss_one (ms_retN (mn_lc (own := [("track", 3)]) rfl sc_unlike_tracks.nd (mi_range1 (by rfl) T.z_range (mb_name 2 (pv 2))) (blkOk_by (N := ["one", "other", "many", "track"]) (sc := defScope s_unlike_tracks) (by decide +kernel)) (fun _ _ _ _ _ => (pg_name (i := 3) sc_unlike_tracks.nd rfl (by first | exact Or.inl rfl | exact Or.inr rfl))) (tg_name 3) (fun _ _ _ _ _ => (pts_one (mt_cmp (op_neD hr.units) cmd_ne (mb (me_op op_mod opd_mod (mb (me_op op_fdiv opd_fdiv (mb_name 0 (pv 0)) (mb (me_call (ok_power T) (hr.mono (by decide)) (by rfl) T.g_power T.F_power.kp T.b_power (ma_cons (me_name 3 (pv 3)) ma_nil))))) (mb me_int))) (mb (me_op op_mod opd_mod (mb (me_op op_fdiv opd_fdiv (mb_name 1 (pv 1)) (mb (me_call (ok_power T) (hr.mono (by decide)) (by rfl) T.g_power T.F_power.kp T.b_power (ma_cons (me_name 3 (pv 3)) ma_nil))))) (mb me_int))) (nomark _)))) (fun _ _ _ z => z) (fun _ _ _ _ _ => (me_name 3 (pv 3))))))
def ce1_is_plate : Rho → R D := (call m_is_whole (cons' (nm 3) (cons' (cst (.int 0)) (cons' (e2 subD (call m_power (cons' (nm 0) (cst []))) (cst (.int 1))) (cst [])))))
def ce2_is_plate : Rho → R D := (bv (e2 eqD (e1 lenD (cons' (call m_unlike_tracks (cons' (e2 ixD (bnm 1) (e2 subD (bnm 2) (cst (.int 1)))) (cons' (e2 ixD (bnm 1) (bnm 2)) (cons' (nm 0) (cst []))))) (cst []))) (cst (.int 1))))
def tl2_is_plate : Rho → Out := (sRet (e1 allD (cons' (lcD (lcE [2] (rg1 (e1 lenD (cons' (bnm 1) (cst [])))) (bName 2) yes ce2_is_plate)) (cst []))))
def tl1_is_plate : Rho → Out := (sSeq (sIf (orT (notT (e1 asB (e1 allD (cons' (lcD (lcE [3] (itE (nm 1)) (bName 3) yes ce1_is_plate)) (cst []))))) (e2 neD (e1 lenSetD (bnm 1)) (e1 lenD (cons' (bnm 1) (cst []))))) (sRet (cst (.bool false))) sNil) tl2_is_plate)
def tl0_is_plate : Rho → Out := (sSeq (sIf (orT (notT (e1 asB (call m_is_whole (cons' (nm 0) (cons' (cst (.int 1)) (cons' (cst (.int 5)) (cst []))))))) (orT (notT (e1 asB (e1 (isiE .tuple) (bnm 1)))) (e2 ltD (e1 lenD (cons' (bnm 1) (cst []))) (cst (.int 2))))) (sRet (cst (.bool false))) sNil) tl1_is_plate)
def m_is_plate : List D → Out := fnM0 2 4 (tl0_is_plate)
theorem ok_is_plate (T : Txt K mg) : FnOk Pr w K mg base CX0 3 T.a_is_plate T.d_is_plate ["many", "thing"] (spM K ns mg m_is_plate) := by
  refine fnOk T.F_is_plate sc_is_plate (fun cdv A outer s H E c hc hr => ?_)
  subst hc
  exact (mss_cons (ms_if (mt_w (mw_or (mt_not (mt_val (mb (me_call (ok_is_whole T) (hr.mono (by decide)) (by rfl) T.g_is_whole T.F_is_whole.kp T.b_is_whole (ma_cons (me_name 0 (pv 0)) (ma_cons me_int (ma_cons (me_globI (by rfl) T.c_MOST_TRACKS) ma_nil))))))) (mw_or (mt_not (mt_val (mb (me_isi .tuple (by rfl) T.z_isinstance bt_isinstance (mb_name 1 (pv 1)) (pe_bltn (by rfl) T.z_tuple bt_tuple rfl))))) (mw_or1 (mt_cmp op_lt cmd_lt (mb (me_callB call_len cad_len (by rfl) T.z_len bt_len (mba_cons (mb_name 1 (pv 1)) mba_nil))) (mb me_int) (nomark _)))))) (mss_one (ms_ret me_bl)) mss_nil)
    (mss_cons (ms_if (mt_w (mw_or (mt_not (mt_val (mb (me_callB (cr_all rfl) cad_all (by rfl) T.z_all bt_all (mba_cons (mb (me_lc (own := [("one", 3)]) rfl sc_is_plate.nd (mi_of (me_name 1 (pv 1))) (blkOk_by (N := ["many", "thing", "at", "one"]) (sc := defScope s_is_plate) (by decide +kernel)) (fun _ _ _ _ _ => (pg_name (i := 3) sc_is_plate.nd rfl (by first | exact Or.inl rfl | exact Or.inr rfl))) (tg_name 3) (fun _ _ _ _ _ => pts_nil) (fun _ _ _ z => yes_ok z) (fun _ _ _ _ _ => (me_call (ok_is_whole T) (hr.mono (by decide)) (by rfl) T.g_is_whole T.F_is_whole.kp T.b_is_whole (ma_cons (me_name 3 (pv 3)) (ma_cons me_int (ma_cons (me_op op_sub opd_sub (mb (me_call (ok_power T) (hr.mono (by decide)) (by rfl) T.g_power T.F_power.kp T.b_power (ma_cons (me_name 0 (pv 0)) ma_nil))) (mb me_int)) ma_nil))))))) mba_nil))))) (mw_or1 (mt_cmp (op_neD hr.units) cmd_ne (mb (me_lenSet rfl (by rfl) T.z_len (by rfl) T.z_set (mb_name 1 (pv 1)))) (mb (me_callB call_len cad_len (by rfl) T.z_len bt_len (mba_cons (mb_name 1 (pv 1)) mba_nil))) (nomark _))))) (mss_one (ms_ret me_bl)) mss_nil)
    (mss_one (ms_ret (me_callB (cr_all rfl) cad_all (by rfl) T.z_all bt_all (mba_cons (mb (me_lc (own := [("at", 2)]) rfl sc_is_plate.nd (mi_range1 (by rfl) T.z_range (mb (me_callB call_len cad_len (by rfl) T.z_len bt_len (mba_cons (mb_name 1 (pv 1)) mba_nil)))) (blkOk_by (N := ["many", "thing", "at", "one"]) (sc := defScope s_is_plate) (by decide +kernel)) (fun _ _ _ _ _ => (pg_name (i := 2) sc_is_plate.nd rfl (by first | exact Or.inl rfl | exact Or.inr rfl))) (tg_name 2) (fun _ _ _ _ _ => pts_nil) (fun _ _ _ z => yes_ok z) (fun _ _ _ _ _ => (me_cmp (op_eqD hr.units) cmd_eq (mb (me_callB call_len cad_len (by rfl) T.z_len bt_len (mba_cons (mb (me_call (ok_unlike_tracks T) (hr.mono (by decide)) (by rfl) T.g_unlike_tracks T.F_unlike_tracks.kp T.b_unlike_tracks (ma_cons (me_ix ix_seq opd_ix (mb_name 1 (pv 1)) (mb (me_op op_sub opd_sub (mb_name 2 (pv 2)) (mb me_int))) (fun _ _ => rfl)) (ma_cons (me_ix ix_seq opd_ix (mb_name 1 (pv 1)) (mb_name 2 (pv 2)) (fun _ _ => rfl)) (ma_cons (me_name 0 (pv 0)) ma_nil))))) mba_nil))) (mb me_int) (nomark _))))) mba_nil))))))
def tl0_look_plate : Rho → Out := (sIf (notT (e1 asB (call m_is_plate (cons' (nm 0) (cons' (nm 1) (cst [])))))) sBad sNil)
def m_look_plate : List D → Out := fnM0 2 2 (tl0_look_plate)
theorem ok_look_plate (T : Txt K mg) : FnOk Pr w K mg base CX0 4 T.a_look_plate T.d_look_plate ["many", "plate"] (spM K ns mg m_look_plate) := by
  refine fnOk T.F_look_plate sc_look_plate (fun cdv A outer s H E c hc hr => ?_)
  subst hc
  exact (mss_one (ms_if (mt_not (mt_val (mb (me_call (ok_is_plate T) (hr.mono (by decide)) (by rfl) T.g_is_plate T.F_is_plate.kp T.b_is_plate (ma_cons (me_name 0 (pv 0)) (ma_cons (me_name 1 (pv 1)) ma_nil)))))) (mss_one ms_never) mss_nil))
def lb1_changes : Rho → Out := (sSeq (sSet 4 (nD (e2 ixD (call m_unlike_tracks (cons' (e2 ixD (bnm 1) (e2 subD (bnm 3) (cst (.int 1)))) (cons' (e2 ixD (bnm 1) (bnm 3)) (cons' (nm 0) (cst []))))) (cst (.int 0)))))
    (sPut 2 (bnm 4) (e2 addD (e2 ixD (bnm 2) (bnm 4)) (cst (.int 1)))))
def tl3_changes : Rho → Out := (own 2)
def tl2_changes : Rho → Out := (sSeq (sFor (rg1 (e1 lenD (cons' (bnm 1) (cst [])))) (bName 3) lb1_changes) tl3_changes)
def tl1_changes : Rho → Out := (sSeq (sSet 2 (nO (e2 repN (lstE (cons' (cst (.int 0)) (cst []))) (bnm 0)))) tl2_changes)
def tl0_changes : Rho → Out := (sSeq (sDrop (call m_look_plate (cons' (nm 0) (cons' (nm 1) (cst []))))) tl1_changes)
def m_changes : List D → Out := fnM0 2 5 (tl0_changes)
theorem ok_changes (T : Txt K mg) : FnOk Pr w K mg base CX0 5 T.a_changes T.d_changes ["many", "plate"] (spM K ns mg m_changes) := by
  refine fnOk T.F_changes sc_changes (fun cdv A outer s H E c hc hr => ?_)
  subst hc
  exact (mss_cons (ms_expr (mb (me_call (ok_look_plate T) (hr.mono (by decide)) (by rfl) T.g_look_plate T.F_look_plate.kp T.b_look_plate (ma_cons (me_name 0 (pv 0)) (ma_cons (me_name 1 (pv 1)) ma_nil)))))
    (mss_cons (ms_set (i := 2) sc_changes.nd rfl (by first | exact Or.inl rfl | exact Or.inr rfl) (mn_op op_rep opn_rep (mb (me_lst (ma_cons me_int ma_nil))) (mb_name 0 (pv 0))))
    (mss_cons (ms_for (vs := [3]) PassesOwn.never rfl (mi_range1 (by rfl) T.z_range (mb (me_callB call_len cad_len (by rfl) T.z_len bt_len (mba_cons (mb_name 1 (pv 1)) mba_nil)))) (pg_name (i := 3) sc_changes.nd rfl (by first | exact Or.inl rfl | exact Or.inr rfl)) (tg_name 3) (mss_cons (ms_set (i := 4) sc_changes.nd rfl (by first | exact Or.inl rfl | exact Or.inr rfl) (mn_d (me_ix ix_seq opd_ix (mb (me_call (ok_unlike_tracks T) (hr.mono (by decide)) (by rfl) T.g_unlike_tracks T.F_unlike_tracks.kp T.b_unlike_tracks (ma_cons (me_ix ix_seq opd_ix (mb_name 1 (pv 1)) (mb (me_op op_sub opd_sub (mb_name 3 (pv 3)) (mb me_int))) (fun _ _ => rfl)) (ma_cons (me_ix ix_seq opd_ix (mb_name 1 (pv 1)) (mb_name 3 (pv 3)) (fun _ _ => rfl)) (ma_cons (me_name 0 (pv 0)) ma_nil))))) (mb me_int) (fun _ _ => rfl))))
    (mss_one (ms_put (i := 2) (pv 2) (mb_name 4 (pv 4)) (me_op opr_add opd_add (mb (me_ix ix_seq opd_ix (mb_name 2 (pv 2)) (mb_name 4 (pv 4)) (fun _ _ => rfl))) (mb me_int)) (pg_sub (pv 2) (mb_name 4 (pv 4)) set_list)))))
    (mss_one (ms_retO 2 (pv 2))))))
def ce1_way_on : Rho → R D := (call m_is_whole (cons' (nm 5) (cons' (cst (.int 0)) (cons' (e2 subD (call m_power (cons' (nm 0) (cst []))) (cst (.int 1))) (cst [])))))
def ce2_way_on : Rho → R D := (ifE (e2 inD (bnm 7) (wkE (bnm 1))) (idxN (bnm 1) (bnm 7)) (cst .none))
def lb3_way_on : Rho → Out := (sIf (orT (e2 isD (bnm 5) (cst .none)) (e2 isD (bnm 6) (cst .none))) (sApp 4 (cst .none)) (sSeq (sSet 8 (nD (e2 modD (e2 subD (bnm 6) (bnm 5)) (e1 lenD (cons' (wkE (bnm 1)) (cst []))))))
    (sApp 4 (ifE (e2 leD (e2 mulD (cst (.int 2)) (bnm 8)) (e1 lenD (cons' (wkE (bnm 1)) (cst [])))) (nm 8) (e2 subD (bnm 8) (e1 lenD (cons' (wkE (bnm 1)) (cst []))))))))
def tl5_way_on : Rho → Out := (own 4)
def tl4_way_on : Rho → Out := (sSeq (sFrz 3 (sFor (zpE (nm 3) (slE (bnm 3) (e1 asI (cst (.int 1))) (cst none))) (bTup [5, 6]) lb3_way_on)) tl5_way_on)
def tl3_way_on : Rho → Out := (sSeq (sSet 4 (nLst (cst []))) tl4_way_on)
def tl2_way_on : Rho → Out := (sSeq (sSet 3 (nO (lcE [7] (itE (nm 2)) (bName 7) yes ce2_way_on))) tl3_way_on)
def tl1_way_on : Rho → Out := (sSeq (sIf (orT (notT (e1 asB (e1 (isiTE .list .tuple) (bnm 2)))) (notT (e1 asB (e1 allD (cons' (lcD (lcE [5] (itE (nm 2)) (bName 5) yes ce1_way_on)) (cst [])))))) sBad sNil) tl2_way_on)
def tl0_way_on : Rho → Out := (sSeq (sDrop (call m_look_plate (cons' (nm 0) (cons' (wkE (nm 1)) (cst []))))) tl1_way_on)
def m_way_on : List D → Out := fnM0 3 9 (tl0_way_on)
theorem ok_way_on (T : Txt K mg) : FnOk Pr w K mg base CX0 5 T.a_way_on T.d_way_on ["many", "plate", "codes"] (spM K ns mg m_way_on) := by
  refine fnOk T.F_way_on sc_way_on (fun cdv A outer s H E c hc hr => ?_)
  subst hc
  exact (mss_cons (ms_expr (mb (me_call (ok_look_plate T) (hr.mono (by decide)) (by rfl) T.g_look_plate T.F_look_plate.kp T.b_look_plate (ma_cons (me_name 0 (pv 0)) (ma_cons (me_wk (me_name 1 (pv 1))) ma_nil)))))
    (mss_cons (ms_if (mt_w (mw_or (mt_not (mt_val (mb (me_isiT .list .tuple (by rfl) T.z_isinstance bt_isinstance (mb_name 2 (pv 2)) (pe_bltn (by rfl) T.z_list bt_list rfl) (pe_bltn (by rfl) T.z_tuple bt_tuple rfl))))) (mw_or1 (mt_not (mt_val (mb (me_callB (cr_all rfl) cad_all (by rfl) T.z_all bt_all (mba_cons (mb (me_lc (own := [("one", 5)]) rfl sc_way_on.nd (mi_of (me_name 2 (pv 2))) (blkOk_by (N := ["many", "plate", "codes", "places", "made", "one", "other", "code", "on"]) (sc := defScope s_way_on) (by decide +kernel)) (fun _ _ _ _ _ => (pg_name (i := 5) sc_way_on.nd rfl (by first | exact Or.inl rfl | exact Or.inr rfl))) (tg_name 5) (fun _ _ _ _ _ => pts_nil) (fun _ _ _ z => yes_ok z) (fun _ _ _ _ _ => (me_call (ok_is_whole T) (hr.mono (by decide)) (by rfl) T.g_is_whole T.F_is_whole.kp T.b_is_whole (ma_cons (me_name 5 (pv 5)) (ma_cons me_int (ma_cons (me_op op_sub opd_sub (mb (me_call (ok_power T) (hr.mono (by decide)) (by rfl) T.g_power T.F_power.kp T.b_power (ma_cons (me_name 0 (pv 0)) ma_nil))) (mb me_int)) ma_nil))))))) mba_nil)))))))) (mss_one ms_never) mss_nil)
    (mss_cons (ms_setLc (i := 3) (y := "places") (own := [("code", 7)]) rfl sc_way_on.nd rfl rfl (sw_true rfl rfl rfl (by decide +kernel)) (mi_of (me_name 2 (pv 2))) (blkOk_by (N := ["many", "plate", "codes", "places", "made", "one", "other", "code", "on"]) (sc := defScope s_way_on) (by decide +kernel)) (fun _ _ _ _ _ => (pg_name (i := 7) sc_way_on.nd rfl (by first | exact Or.inl rfl | exact Or.inr rfl))) (tg_name 7) (fun _ _ _ _ _ => pts_nil) (fun _ _ _ z => yes_ok z) (fun _ _ _ _ _ => (me_if (mt_cmp (opr_in (units65 hr)) cmd_in (mb_name 7 (pv 7)) (mb_wk (mb_name 1 (pv 1))) (by rfl)) (me_idxN (pe_bN PySem.F.plainAttrs_tuple PySem.F.slot_tuple_index PySem.F.type_tuple_index mt_indexT (mb_name 1 (pv 1)) (pa_cons (mb_name 7 (pv 7)) pa_nil))) me_non)))
    (mss_cons (ms_set (i := 4) sc_way_on.nd rfl (by first | exact Or.inl rfl | exact Or.inr rfl) (mn_lst ma_nil))
    (mss_cons (ms_frz 3 (ms_for (vs := [5, 6]) PassesOwn.never rfl (mi_zip (by rfl) T.z_zip (me_name 3 (pv 3)) (me_slice (mb_name 3 (pv 3)) (mo_some (mb me_int)) mo_none)) (pg_tup (n := 2) rfl (pgs_cons (pg_name (i := 5) sc_way_on.nd rfl (by first | exact Or.inl rfl | exact Or.inr rfl)) (pgs_cons (pg_name (i := 6) sc_way_on.nd rfl (by first | exact Or.inl rfl | exact Or.inr rfl)) pgs_nil))) (tg_tup (tgs_cons 5 (tgs_cons 6 tgs_nil))) (mss_one (ms_if (mt_w (mw_or (mt_cmp opr_is cmd_is (mb_name 5 (pv 5)) (mb me_non) (nomark _)) (mw_or1 (mt_cmp opr_is cmd_is (mb_name 6 (pv 6)) (mb me_non) (nomark _))))) (mss_one (ms_app (pe_bm PySem.F.plainAttrs_list PySem.F.slot_list_append PySem.F.type_list_append mt_append (pv 4) (pa_cons me_non pa_nil)))) (mss_cons (ms_set (i := 8) sc_way_on.nd rfl (by first | exact Or.inl rfl | exact Or.inr rfl) (mn_d (me_op op_mod opd_mod (mb (me_op op_sub opd_sub (mb_name 6 (pv 6)) (mb_name 5 (pv 5)))) (mb (me_callB call_len cad_len (by rfl) T.z_len bt_len (mba_cons (mb_wk (mb_name 1 (pv 1))) mba_nil))))))
    (mss_one (ms_app (pe_bm PySem.F.plainAttrs_list PySem.F.slot_list_append PySem.F.type_list_append mt_append (pv 4) (pa_cons (me_if (mt_cmp op_le cmd_le (mb (me_op opr_mul opd_mul (mb me_int) (mb_name 8 (pv 8)))) (mb (me_callB call_len cad_len (by rfl) T.z_len bt_len (mba_cons (mb_wk (mb_name 1 (pv 1))) mba_nil))) (nomark _)) (me_name 8 (pv 8)) (me_op op_sub opd_sub (mb_name 8 (pv 8)) (mb (me_callB call_len cad_len (by rfl) T.z_len bt_len (mba_cons (mb_wk (mb_name 1 (pv 1))) mba_nil))))) pa_nil)))))))))
    (mss_one (ms_retO 4 (pv 4))))))))
def ct1_all_plates : Rho → R Bool := (e2 eqD (e1 lenD (cons' (call m_unlike_tracks (cons' (e2 ixD (bnm 5) (e1 negD (cst (.int 1)))) (cons' (nm 8) (cons' (nm 0) (cst []))))) (cst []))) (cst (.int 1)))
def ce2_all_plates : Rho → R D := (e2 addD (bnm 5) (tupE (cons' (nm 8) (cst []))))
def lb3_all_plates : Rho → Out := (sSeq (sSet 6 (nO (lcE [8] (rg1 (call m_power (cons' (nm 0) (cst [])))) (bName 8) (e2 ninD (bnm 8) (bnm 5)) (nm 8))))
    (sSeq (sFrz 6 (sSet 7 (nO (lcE [8] (itE (nm 6)) (bName 8) ct1_all_plates (nm 8)))))
    (sFrz 7 (sExt 4 (lcD (lcE [8] (itE (nm 7)) (bName 8) yes ce2_all_plates))))))
def lb4_all_plates : Rho → Out := (sSeq (sSet 4 (nLst (cst [])))
    (sSeq (sFor (itE (nm 2)) (bName 5) lb3_all_plates)
    (sFrz 4 (sSet 2 (nD (nm 4))))))
def ct5_all_plates : Rho → R Bool := (e1 asB (call m_is_plate (cons' (nm 0) (cons' (nm 5) (cst [])))))
def tl3_all_plates : Rho → Out := (sRetN (nO (lcE [5] (itE (e1 sortAD (cons' (bnm 2) (cst [])))) (bName 5) ct5_all_plates (nm 5))))
def tl2_all_plates : Rho → Out := (sSeq (sFor (rg1 (e2 subD (bnm 1) (cst (.int 1)))) (bName 3) lb4_all_plates) tl3_all_plates)
def tl1_all_plates : Rho → Out := (sSeq (sSet 2 (nD (lstE (cons' (tupE (cons' (cst (.int 0)) (cst []))) (cst []))))) tl2_all_plates)
def tl0_all_plates : Rho → Out := (sSeq (sIf (orT (notT (e1 asB (call m_is_whole (cons' (nm 0) (cons' (cst (.int 1)) (cons' (cst (.int 3)) (cst []))))))) (notT (e1 asB (call m_is_whole (cons' (nm 1) (cons' (cst (.int 2)) (cons' (cst (.int 8)) (cst [])))))))) sBad sNil) tl1_all_plates)
def m_all_plates : List D → Out := fnM0 2 9 (tl0_all_plates)
theorem ok_all_plates (T : Txt K mg) : FnOk Pr w K mg base CX0 4 T.a_all_plates T.d_all_plates ["many", "size"] (spM K ns mg m_all_plates) := by
  refine fnOk T.F_all_plates sc_all_plates (fun cdv A outer s H E c hc hr => ?_)
  subst hc
  exact (mss_cons (ms_if (mt_w (mw_or (mt_not (mt_val (mb (me_call (ok_is_whole T) (hr.mono (by decide)) (by rfl) T.g_is_whole T.F_is_whole.kp T.b_is_whole (ma_cons (me_name 0 (pv 0)) (ma_cons me_int (ma_cons me_int ma_nil))))))) (mw_or1 (mt_not (mt_val (mb (me_call (ok_is_whole T) (hr.mono (by decide)) (by rfl) T.g_is_whole T.F_is_whole.kp T.b_is_whole (ma_cons (me_name 1 (pv 1)) (ma_cons me_int (ma_cons me_int ma_nil)))))))))) (mss_one ms_never) mss_nil)
    (mss_cons (ms_set (i := 2) sc_all_plates.nd rfl (by first | exact Or.inl rfl | exact Or.inr rfl) (mn_d (me_lst (ma_cons (me_tup (ma_cons me_int ma_nil)) ma_nil))))
    (mss_cons (ms_for (vs := [3]) PassesOwn.never rfl (mi_range1 (by rfl) T.z_range (mb (me_op op_sub opd_sub (mb_name 1 (pv 1)) (mb me_int)))) (pg_name (i := 3) sc_all_plates.nd rfl (by first | exact Or.inl rfl | exact Or.inr rfl)) (tg_name 3) (mss_cons (ms_set (i := 4) sc_all_plates.nd rfl (by first | exact Or.inl rfl | exact Or.inr rfl) (mn_lst ma_nil))
    (mss_cons (ms_for (vs := [5]) PassesOwn.never rfl (mi_of (me_name 2 (pv 2))) (pg_name (i := 5) sc_all_plates.nd rfl (by first | exact Or.inl rfl | exact Or.inr rfl)) (tg_name 5) (mss_cons (ms_setLc (i := 6) (y := "free") (own := [("one", 8)]) rfl sc_all_plates.nd rfl rfl (sw_true rfl rfl rfl (by decide +kernel)) (mi_range1 (by rfl) T.z_range (mb (me_call (ok_power T) (hr.mono (by decide)) (by rfl) T.g_power T.F_power.kp T.b_power (ma_cons (me_name 0 (pv 0)) ma_nil)))) (blkOk_by (N := ["many", "size", "rows", "again", "longer", "row", "free", "nexts", "one"]) (sc := defScope s_all_plates) (by decide +kernel)) (fun _ _ _ _ _ => (pg_name (i := 8) sc_all_plates.nd rfl (by first | exact Or.inl rfl | exact Or.inr rfl))) (tg_name 8) (fun _ _ _ _ _ => (pts_one (mt_cmp (opr_nin (units65 hr)) cmd_nin (mb_name 8 (pv 8)) (mb_name 5 (pv 5)) (by rfl)))) (fun _ _ _ z => z) (fun _ _ _ _ _ => (me_name 8 (pv 8))))
    (mss_cons (ms_frz 6 (ms_setLc (i := 7) (y := "nexts") (own := [("one", 8)]) rfl sc_all_plates.nd rfl rfl (sw_true rfl rfl rfl (by decide +kernel)) (mi_of (me_name 6 (pv 6))) (blkOk_by (N := ["many", "size", "rows", "again", "longer", "row", "free", "nexts", "one"]) (sc := defScope s_all_plates) (by decide +kernel)) (fun _ _ _ _ _ => (pg_name (i := 8) sc_all_plates.nd rfl (by first | exact Or.inl rfl | exact Or.inr rfl))) (tg_name 8) (fun _ _ _ _ _ => (pts_one (mt_cmp (op_eqD hr.units) cmd_eq (mb (me_callB call_len cad_len (by rfl) T.z_len bt_len (mba_cons (mb (me_call (ok_unlike_tracks T) (hr.mono (by decide)) (by rfl) T.g_unlike_tracks T.F_unlike_tracks.kp T.b_unlike_tracks (ma_cons (me_ix ix_seq opd_ix (mb_name 5 (pv 5)) (mb (me_neg (mb me_int))) (fun _ _ => rfl)) (ma_cons (me_name 8 (pv 8)) (ma_cons (me_name 0 (pv 0)) ma_nil))))) mba_nil))) (mb me_int) (nomark _)))) (fun _ _ _ z => z) (fun _ _ _ _ _ => (me_name 8 (pv 8)))))
    (mss_one (ms_frz 7 (ms_ext (pe_bm PySem.F.plainAttrs_list PySem.F.slot_list_extend PySem.F.type_list_extend mt_extend (pv 4) (pa_cons (mb (me_lc (own := [("one", 8)]) rfl sc_all_plates.nd (mi_of (me_name 7 (pv 7))) (blkOk_by (N := ["many", "size", "rows", "again", "longer", "row", "free", "nexts", "one"]) (sc := defScope s_all_plates) (by decide +kernel)) (fun _ _ _ _ _ => (pg_name (i := 8) sc_all_plates.nd rfl (by first | exact Or.inl rfl | exact Or.inr rfl))) (tg_name 8) (fun _ _ _ _ _ => pts_nil) (fun _ _ _ z => yes_ok z) (fun _ _ _ _ _ => (me_op opr_add opd_add (mb_name 5 (pv 5)) (mb (me_tup (ma_cons (me_name 8 (pv 8)) ma_nil))))))) pa_nil))))))))
    (mss_one (ms_frz 4 (ms_set (i := 2) sc_all_plates.nd rfl (by first | exact Or.inl rfl | exact Or.inr rfl) (mn_d (me_name 4 (pv 4)))))))))
    (mss_one (ms_retN (mn_lc (own := [("row", 5)]) rfl sc_all_plates.nd (mi_of (me_callB car_sortedA cad_sortedA (by rfl) T.z_sorted bt_sorted (mba_cons (mb_name 2 (pv 2)) mba_nil))) (blkOk_by (N := ["many", "size", "rows", "again", "longer", "row", "free", "nexts", "one"]) (sc := defScope s_all_plates) (by decide +kernel)) (fun _ _ _ _ _ => (pg_name (i := 5) sc_all_plates.nd rfl (by first | exact Or.inl rfl | exact Or.inr rfl))) (tg_name 5) (fun _ _ _ _ _ => (pts_one (mt_val (mb (me_call (ok_is_plate T) (hr.mono (by decide)) (by rfl) T.g_is_plate T.F_is_plate.kp T.b_is_plate (ma_cons (me_name 0 (pv 0)) (ma_cons (me_name 5 (pv 5)) ma_nil))))))) (fun _ _ _ z => z) (fun _ _ _ _ _ => (me_name 5 (pv 5)))))))))
def tl12_law : Rho → Out := (sRet (andV (bv (e2 eqD (bnm 2) (e2 mulD (lstE (cons' (cst (.bool true)) (cst []))) (cst (.int 10))))) (andV (bv (e2 eqD (bnm 4) (bnm 1))) (bv (e2 eqD (bnm 5) (lstE (cons' (cst (.int 0)) (cons' (cst (.int 3)) (cons' (cst (.int 1)) (cst []))))))))))
def tl11_law : Rho → Out := (sSeq (sApp 2 (staysE (ncall m_all_plates (cons' (cst (.int 2)) (cons' (cst (.int 4)) (cst [])))))) tl12_law)
def tl10_law : Rho → Out := (sSeq (sApp 2 (staysE (ncall m_way_on (cons' (cst (.int 2)) (cons' (tupNE (cons' (cst (.int 0)) (cons' (cst (.int 1)) (cons' (cst (.int 3)) (cons' (cst (.int 2)) (cst [])))))) (cons' (nm 5) (cst []))))))) tl11_law)
def tl9_law : Rho → Out := (sSeq (sApp 2 (staysE (ncall m_changes (cons' (cst (.int 2)) (cons' (tupE (cons' (cst (.int 0)) (cons' (cst (.int 1)) (cons' (cst (.int 3)) (cons' (cst (.int 2)) (cst [])))))) (cst [])))))) tl10_law)
def tl8_law : Rho → Out := (sSeq (sApp 2 (staysE (ncall m_lost_moves (cons' (nm 4) (cons' (cst (.int 2)) (cons' (cst (.int 1)) (cst []))))))) tl9_law)
def tl7_law : Rho → Out := (sSeq (sApp 2 (staysE (ncall m_all_ends (cons' (nm 4) (cons' (cst (.int 2)) (cst [])))))) tl8_law)
def tl6_law : Rho → Out := (sSeq (sApp 2 (staysE (ncall m_followed (cons' (nm 4) (cons' (cst (.int 2)) (cons' (cst (.int 1)) (cst []))))))) tl7_law)
def tl5_law : Rho → Out := (sSeq (sApp 2 (staysE (ncall m_settled (cons' (nm 3) (cons' (cst (.int 2)) (cst [])))))) tl6_law)
def tl4_law : Rho → Out := (sSeq (sApp 2 (staysE (fcall m_fitting (cons' (nm 3) (cst []))))) tl5_law)
def tl3_law : Rho → Out := (sSeq (sApp 2 (staysE (ncall m_bounces (cons' (nm 3) (cst []))))) tl4_law)
def tl2_law : Rho → Out := (sSeq (sSet 2 (nLst (cons' (staysE (ncall m_jumps (cons' (nm 3) (cst [])))) (cst [])))) tl3_law)
def tl1_law : Rho → Out := (sSeq (sSet 1 (nD (e1 listD (cons' (bnm 4) (cst []))))) tl2_law)
def tl0_law (P : Int → Int → Int) : Rho → Out := (sSeq (sUnp (bTup [3, 4, 5]) (tupE (cons' (call (m__law_rough P) (cons' (nm 0) (cons' (cst (.int 10)) (cons' (cst (.int 12)) (cst []))))) (cons' (call (m__law_moves P) (cons' (nm 0) (cons' (cst (.int 60)) (cst [])))) (cons' (lstE (cons' (cst (.int 0)) (cons' (cst (.int 3)) (cons' (cst (.int 1)) (cst []))))) (cst [])))))) tl1_law)
def m_law (P : Int → Int → Int) : List D → Out := fnM0 1 6 ((tl0_law P))
theorem ok_law (T : Txt K mg) {cc Pt : Addr} {oc dV kV doc pm ct : Value} {od an : Option Addr} {osl : Array (Option Value)} (lk : K.lookup T.a_law = some ⟨oc, od, .func (PySem.W.fnOf "law" "law" (defArgs s_law) (defBody s_law) (defScope s_law) dV kV doc pm an (.ref cc) ct), osl⟩) (hcd : PySem.W.codeIn K (.ref cc) "law" = true) (TB : LamX.TabB base mg cc Pt) :
    FnOk Pr w K mg base CX0 8 T.a_law (PySem.W.fnOf "law" "law" (defArgs s_law) (defBody s_law) (defScope s_law) dV kV doc pm an (.ref cc) ct) ["script"] (spT K ns mg Pt (m_law (pick ns.l))) := by
  refine fnOkL lk hcd sc_law (fun A outer s H E c hc hT hr => ?_)
  subst hc
  exact (mss_cons (ms_unp (vs := [3, 4, 5]) (me_tup (ma_cons (me_call (ok__law_rough T) (hr.mono (by decide)) (by rfl) T.g__law_rough T.F__law_rough.kp T.b__law_rough (ma_cons (me_name 0 (pv 0)) (ma_cons me_int (ma_cons me_int ma_nil)))) (ma_cons (me_call (ok__law_moves T) (hr.mono (by decide)) (by rfl) T.g__law_moves T.F__law_moves.kp T.b__law_moves (ma_cons (me_name 0 (pv 0)) (ma_cons me_int ma_nil))) (ma_cons (me_lst (ma_cons me_int (ma_cons me_int (ma_cons me_int ma_nil)))) ma_nil)))) (pg_tup (n := 3) rfl (pgs_cons (pg_name (i := 3) sc_law.nd rfl (by first | exact Or.inl rfl | exact Or.inr rfl)) (pgs_cons (pg_name (i := 4) sc_law.nd rfl (by first | exact Or.inl rfl | exact Or.inr rfl)) (pgs_cons (pg_name (i := 5) sc_law.nd rfl (by first | exact Or.inl rfl | exact Or.inr rfl)) pgs_nil)))) (tg_tup (tgs_cons 3 (tgs_cons 4 (tgs_cons 5 tgs_nil)))))
    (mss_cons (ms_set (i := 1) sc_law.nd rfl (by first | exact Or.inl rfl | exact Or.inr rfl) (mn_d (me_callTy call_list_of cad_list (by rfl) T.z_list bt_list (mba_cons (mb_name 4 (pv 4)) mba_nil))))
    (mss_cons (ms_set (i := 2) sc_law.nd rfl (by first | exact Or.inl rfl | exact Or.inr rfl) (mn_lst (ma_cons (me_sty (k := 5) T (by rfl) rfl TB rfl hT (hr.mono (by decide)) (hr.mono (by decide)) (LamX.lamS_by (sc := defScope s_law) (by decide +kernel)) rfl (fun _ _ _ _ _ => rfl) (fun A2 outer2 s2 H2 E2 f2 c2 hr => (mn_call0 (ok_jumps T) (hr.mono (by decide)) (by rfl) T.g_jumps T.F_jumps.kp T.b_jumps (ma_cons (me_name 3 (pv 3)) ma_nil)))) ma_nil)))
    (mss_cons (ms_app (pe_bm PySem.F.plainAttrs_list PySem.F.slot_list_append PySem.F.type_list_append mt_append (pv 2) (pa_cons (me_sty (k := 5) T (by rfl) rfl TB rfl hT (hr.mono (by decide)) (hr.mono (by decide)) (LamX.lamS_by (sc := defScope s_law) (by decide +kernel)) rfl (fun _ _ _ _ _ => rfl) (fun A2 outer2 s2 H2 E2 f2 c2 hr => (mn_call0 (ok_bounces T) (hr.mono (by decide)) (by rfl) T.g_bounces T.F_bounces.kp T.b_bounces (ma_cons (me_name 3 (pv 3)) ma_nil)))) pa_nil)))
    (mss_cons (ms_app (pe_bm PySem.F.plainAttrs_list PySem.F.slot_list_append PySem.F.type_list_append mt_append (pv 2) (pa_cons (me_sty (k := 5) T (by rfl) rfl TB rfl hT (hr.mono (by decide)) (hr.mono (by decide)) (LamX.lamS_by (sc := defScope s_law) (by decide +kernel)) rfl (fun _ _ _ _ _ => rfl) (fun A2 outer2 s2 H2 E2 f2 c2 hr => (mn_callN (ok_fitting T) (hr.mono (by decide)) (by rfl) T.g_fitting T.F_fitting.kp T.b_fitting (ma_cons (me_name 3 (pv 3)) ma_nil)))) pa_nil)))
    (mss_cons (ms_app (pe_bm PySem.F.plainAttrs_list PySem.F.slot_list_append PySem.F.type_list_append mt_append (pv 2) (pa_cons (me_sty (k := 5) T (by rfl) rfl TB rfl hT (hr.mono (by decide)) (hr.mono (by decide)) (LamX.lamS_by (sc := defScope s_law) (by decide +kernel)) rfl (fun _ _ _ _ _ => rfl) (fun A2 outer2 s2 H2 E2 f2 c2 hr => (mn_call0 (ok_settled T) (hr.mono (by decide)) (by rfl) T.g_settled T.F_settled.kp T.b_settled (ma_cons (me_name 3 (pv 3)) (ma_cons me_int ma_nil))))) pa_nil)))
    (mss_cons (ms_app (pe_bm PySem.F.plainAttrs_list PySem.F.slot_list_append PySem.F.type_list_append mt_append (pv 2) (pa_cons (me_sty (k := 3) T (by rfl) rfl TB rfl hT (hr.mono (by decide)) (hr.mono (by decide)) (LamX.lamS_by (sc := defScope s_law) (by decide +kernel)) rfl (fun _ _ _ _ _ => rfl) (fun A2 outer2 s2 H2 E2 f2 c2 hr => (mn_call0 (ok_followed T) (hr.mono (by decide)) (by rfl) T.g_followed T.F_followed.kp T.b_followed (ma_cons (me_name 4 (pv 4)) (ma_cons me_int (ma_cons me_int ma_nil)))))) pa_nil)))
    (mss_cons (ms_app (pe_bm PySem.F.plainAttrs_list PySem.F.slot_list_append PySem.F.type_list_append mt_append (pv 2) (pa_cons (me_sty (k := 3) T (by rfl) rfl TB rfl hT (hr.mono (by decide)) (hr.mono (by decide)) (LamX.lamS_by (sc := defScope s_law) (by decide +kernel)) rfl (fun _ _ _ _ _ => rfl) (fun A2 outer2 s2 H2 E2 f2 c2 hr => (mn_call0 (ok_all_ends T) (hr.mono (by decide)) (by rfl) T.g_all_ends T.F_all_ends.kp T.b_all_ends (ma_cons (me_name 4 (pv 4)) (ma_cons me_int ma_nil))))) pa_nil)))
    (mss_cons (ms_app (pe_bm PySem.F.plainAttrs_list PySem.F.slot_list_append PySem.F.type_list_append mt_append (pv 2) (pa_cons (me_sty (k := 4) T (by rfl) rfl TB rfl hT (hr.mono (by decide)) (hr.mono (by decide)) (LamX.lamS_by (sc := defScope s_law) (by decide +kernel)) rfl (fun _ _ _ _ _ => rfl) (fun A2 outer2 s2 H2 E2 f2 c2 hr => (mn_call0 (ok_lost_moves T) (hr.mono (by decide)) (by rfl) T.g_lost_moves T.F_lost_moves.kp T.b_lost_moves (ma_cons (me_name 4 (pv 4)) (ma_cons me_int (ma_cons me_int ma_nil)))))) pa_nil)))
    (mss_cons (ms_app (pe_bm PySem.F.plainAttrs_list PySem.F.slot_list_append PySem.F.type_list_append mt_append (pv 2) (pa_cons (me_sty (k := 5) T (by rfl) rfl TB rfl hT (hr.mono (by decide)) (hr.mono (by decide)) (LamX.lamS_by (sc := defScope s_law) (by decide +kernel)) rfl (fun _ _ _ _ _ => rfl) (fun A2 outer2 s2 H2 E2 f2 c2 hr => (mn_call0 (ok_changes T) (hr.mono (by decide)) (by rfl) T.g_changes T.F_changes.kp T.b_changes (ma_cons me_int (ma_cons (me_tup (ma_cons me_int (ma_cons me_int (ma_cons me_int (ma_cons me_int ma_nil))))) ma_nil))))) pa_nil)))
    (mss_cons (ms_app (pe_bm PySem.F.plainAttrs_list PySem.F.slot_list_append PySem.F.type_list_append mt_append (pv 2) (pa_cons (me_sty (k := 5) T (by rfl) rfl TB rfl hT (hr.mono (by decide)) (hr.mono (by decide)) (LamX.lamS_by (sc := defScope s_law) (by decide +kernel)) rfl (fun _ _ _ _ _ => rfl) (fun A2 outer2 s2 H2 E2 f2 c2 hr => (mn_call0 (ok_way_on T) (hr.mono (by decide)) (by rfl) T.g_way_on T.F_way_on.kp T.b_way_on (ma_cons me_int (ma_cons (me_tupN (ma_cons me_int (ma_cons me_int (ma_cons me_int (ma_cons me_int ma_nil))))) (ma_cons (me_name 5 (pv 5)) ma_nil)))))) pa_nil)))
    (mss_cons (ms_app (pe_bm PySem.F.plainAttrs_list PySem.F.slot_list_append PySem.F.type_list_append mt_append (pv 2) (pa_cons (me_sty (k := 4) T (by rfl) rfl TB rfl hT (hr.mono (by decide)) (hr.mono (by decide)) (LamX.lamS_by (sc := defScope s_law) (by decide +kernel)) rfl (fun _ _ _ _ _ => rfl) (fun A2 outer2 s2 H2 E2 f2 c2 hr => (mn_call0 (ok_all_plates T) (hr.mono (by decide)) (by rfl) T.g_all_plates T.F_all_plates.kp T.b_all_plates (ma_cons me_int (ma_cons me_int ma_nil))))) pa_nil)))
    (mss_one (ms_ret (me_and (mb (me_cmp (op_eqD hr.units) cmd_eq (mb_name 2 (pv 2)) (mb (me_op opr_mul opd_mul (mb (me_lst (ma_cons me_bl ma_nil))) (mb me_int))) (nomark _))) (me_and (mb (me_cmp (op_eqD hr.units) cmd_eq (mb_name 4 (pv 4)) (mb_name 1 (pv 1)) (nomark _))) (me_one (me_cmp (op_eqD hr.units) cmd_eq (mb_name 5 (pv 5)) (mb (me_lst (ma_cons me_int (ma_cons me_int (ma_cons me_int ma_nil))))) (nomark _)))))))))))))))))))
end
def txt_mk {K : PySem.W.Frag} {h : Heap} {mg : Str → Option Value} (X : K.In h) (Gg : h.Ns mainGlobals mg)
    {f0 : Addr} {od0 an0 : Option Addr} {sl0 : Array (Option Value)} {oc0 kV0 dc0 pm0 cd0 ct0 : Value}
    (a0 : PySem.W.nsIn K mainGlobals "_law_cell" = some (some (.ref f0))) (l0 : K.lookup f0 = some ⟨oc0, od0, .func (PySem.W.fnOf "_law_cell" "_law_cell" (defArgs s__law_cell) (defBody s__law_cell) (defScope s__law_cell) .none kV0 dc0 pm0 an0 cd0 ct0), sl0⟩) (e0 : PySem.W.codeIn K cd0 "_law_cell" = true) (k0 : PySem.W.keepIn K (.ref f0) = true)
    {f1 : Addr} {od1 an1 : Option Addr} {sl1 : Array (Option Value)} {oc1 kV1 dc1 pm1 cd1 ct1 : Value}
    (a1 : PySem.W.nsIn K mainGlobals "_law_pick" = some (some (.ref f1))) (l1 : K.lookup f1 = some ⟨oc1, od1, .func (PySem.W.fnOf "_law_pick" "_law_pick" (defArgs s__law_pick) (defBody s__law_pick) (defScope s__law_pick) .none kV1 dc1 pm1 an1 cd1 ct1), sl1⟩) (e1 : PySem.W.codeIn K cd1 "_law_pick" = true) (k1 : PySem.W.keepIn K (.ref f1) = true)
    {f2 : Addr} {od2 an2 : Option Addr} {sl2 : Array (Option Value)} {oc2 kV2 dc2 pm2 cd2 ct2 : Value}
    (a2 : PySem.W.nsIn K mainGlobals "_law_rough" = some (some (.ref f2))) (l2 : K.lookup f2 = some ⟨oc2, od2, .func (PySem.W.fnOf "_law_rough" "_law_rough" (defArgs s__law_rough) (defBody s__law_rough) (defScope s__law_rough) .none kV2 dc2 pm2 an2 cd2 ct2), sl2⟩) (e2 : PySem.W.codeIn K cd2 "_law_rough" = true) (k2 : PySem.W.keepIn K (.ref f2) = true)
    {f3 : Addr} {od3 an3 : Option Addr} {sl3 : Array (Option Value)} {oc3 kV3 dc3 pm3 cd3 ct3 : Value}
    (a3 : PySem.W.nsIn K mainGlobals "_law_moves" = some (some (.ref f3))) (l3 : K.lookup f3 = some ⟨oc3, od3, .func (PySem.W.fnOf "_law_moves" "_law_moves" (defArgs s__law_moves) (defBody s__law_moves) (defScope s__law_moves) .none kV3 dc3 pm3 an3 cd3 ct3), sl3⟩) (e3 : PySem.W.codeIn K cd3 "_law_moves" = true) (k3 : PySem.W.keepIn K (.ref f3) = true)
    {f4 : Addr} {od4 an4 : Option Addr} {sl4 : Array (Option Value)} {oc4 kV4 dc4 pm4 cd4 ct4 : Value}
    (a4 : PySem.W.nsIn K mainGlobals "_law_stays" = some (some (.ref f4))) (l4 : K.lookup f4 = some ⟨oc4, od4, .func (PySem.W.fnOf "_law_stays" "_law_stays" (defArgs s__law_stays) (defBody s__law_stays) (defScope s__law_stays) .none kV4 dc4 pm4 an4 cd4 ct4), sl4⟩) (e4 : PySem.W.codeIn K cd4 "_law_stays" = true) (k4 : PySem.W.keepIn K (.ref f4) = true)
    {f5 : Addr} {od5 an5 : Option Addr} {sl5 : Array (Option Value)} {oc5 kV5 dc5 pm5 cd5 ct5 : Value}
    (a5 : PySem.W.nsIn K mainGlobals "is_whole" = some (some (.ref f5))) (l5 : K.lookup f5 = some ⟨oc5, od5, .func (PySem.W.fnOf "is_whole" "is_whole" (defArgs s_is_whole) (defBody s_is_whole) (defScope s_is_whole) .none kV5 dc5 pm5 an5 cd5 ct5), sl5⟩) (e5 : PySem.W.codeIn K cd5 "is_whole" = true) (k5 : PySem.W.keepIn K (.ref f5) = true)
    {f6 : Addr} {od6 an6 : Option Addr} {sl6 : Array (Option Value)} {oc6 kV6 dc6 pm6 cd6 ct6 : Value}
    (a6 : PySem.W.nsIn K mainGlobals "is_sample" = some (some (.ref f6))) (l6 : K.lookup f6 = some ⟨oc6, od6, .func (PySem.W.fnOf "is_sample" "is_sample" (defArgs s_is_sample) (defBody s_is_sample) (defScope s_is_sample) .none kV6 dc6 pm6 an6 cd6 ct6), sl6⟩) (e6 : PySem.W.codeIn K cd6 "is_sample" = true) (k6 : PySem.W.keepIn K (.ref f6) = true)
    {f7 : Addr} {od7 an7 : Option Addr} {sl7 : Array (Option Value)} {oc7 kV7 dc7 pm7 cd7 ct7 : Value}
    (a7 : PySem.W.nsIn K mainGlobals "is_row" = some (some (.ref f7))) (l7 : K.lookup f7 = some ⟨oc7, od7, .func (PySem.W.fnOf "is_row" "is_row" (defArgs s_is_row) (defBody s_is_row) (defScope s_is_row) .none kV7 dc7 pm7 an7 cd7 ct7), sl7⟩) (e7 : PySem.W.codeIn K cd7 "is_row" = true) (k7 : PySem.W.keepIn K (.ref f7) = true)
    {f8 : Addr} {od8 an8 : Option Addr} {sl8 : Array (Option Value)} {oc8 kV8 dc8 pm8 cd8 ct8 : Value}
    (a8 : PySem.W.nsIn K mainGlobals "look_row" = some (some (.ref f8))) (l8 : K.lookup f8 = some ⟨oc8, od8, .func (PySem.W.fnOf "look_row" "look_row" (defArgs s_look_row) (defBody s_look_row) (defScope s_look_row) .none kV8 dc8 pm8 an8 cd8 ct8), sl8⟩) (e8 : PySem.W.codeIn K cd8 "look_row" = true) (k8 : PySem.W.keepIn K (.ref f8) = true)
    {f9 : Addr} {od9 an9 : Option Addr} {sl9 : Array (Option Value)} {oc9 kV9 dc9 pm9 cd9 ct9 : Value}
    (a9 : PySem.W.nsIn K mainGlobals "far_on" = some (some (.ref f9))) (l9 : K.lookup f9 = some ⟨oc9, od9, .func (PySem.W.fnOf "far_on" "far_on" (defArgs s_far_on) (defBody s_far_on) (defScope s_far_on) .none kV9 dc9 pm9 an9 cd9 ct9), sl9⟩) (e9 : PySem.W.codeIn K cd9 "far_on" = true) (k9 : PySem.W.keepIn K (.ref f9) = true)
    {f10 : Addr} {od10 an10 : Option Addr} {sl10 : Array (Option Value)} {oc10 kV10 dc10 pm10 cd10 ct10 : Value}
    (a10 : PySem.W.nsIn K mainGlobals "step_between" = some (some (.ref f10))) (l10 : K.lookup f10 = some ⟨oc10, od10, .func (PySem.W.fnOf "step_between" "step_between" (defArgs s_step_between) (defBody s_step_between) (defScope s_step_between) .none kV10 dc10 pm10 an10 cd10 ct10), sl10⟩) (e10 : PySem.W.codeIn K cd10 "step_between" = true) (k10 : PySem.W.keepIn K (.ref f10) = true)
    {f11 : Addr} {od11 an11 : Option Addr} {sl11 : Array (Option Value)} {oc11 kV11 dc11 pm11 cd11 ct11 : Value}
    (a11 : PySem.W.nsIn K mainGlobals "jumps" = some (some (.ref f11))) (l11 : K.lookup f11 = some ⟨oc11, od11, .func (PySem.W.fnOf "jumps" "jumps" (defArgs s_jumps) (defBody s_jumps) (defScope s_jumps) .none kV11 dc11 pm11 an11 cd11 ct11), sl11⟩) (e11 : PySem.W.codeIn K cd11 "jumps" = true) (k11 : PySem.W.keepIn K (.ref f11) = true)
    {f12 : Addr} {od12 an12 : Option Addr} {sl12 : Array (Option Value)} {oc12 kV12 dc12 pm12 cd12 ct12 : Value}
    (a12 : PySem.W.nsIn K mainGlobals "bounces" = some (some (.ref f12))) (l12 : K.lookup f12 = some ⟨oc12, od12, .func (PySem.W.fnOf "bounces" "bounces" (defArgs s_bounces) (defBody s_bounces) (defScope s_bounces) .none kV12 dc12 pm12 an12 cd12 ct12), sl12⟩) (e12 : PySem.W.codeIn K cd12 "bounces" = true) (k12 : PySem.W.keepIn K (.ref f12) = true)
    {f13 : Addr} {od13 an13 : Option Addr} {sl13 : Array (Option Value)} {oc13 kV13 dc13 pm13 cd13 ct13 : Value}
    (a13 : PySem.W.nsIn K mainGlobals "fitting" = some (some (.ref f13))) (l13 : K.lookup f13 = some ⟨oc13, od13, .func (PySem.W.fnOf "fitting" "fitting" (defArgs s_fitting) (defBody s_fitting) (defScope s_fitting) .none kV13 dc13 pm13 an13 cd13 ct13), sl13⟩) (e13 : PySem.W.codeIn K cd13 "fitting" = true) (k13 : PySem.W.keepIn K (.ref f13) = true)
    {f14 : Addr} {od14 an14 : Option Addr} {sl14 : Array (Option Value)} {oc14 kV14 dc14 pm14 cd14 ct14 : Value}
    (a14 : PySem.W.nsIn K mainGlobals "settled" = some (some (.ref f14))) (l14 : K.lookup f14 = some ⟨oc14, od14, .func (PySem.W.fnOf "settled" "settled" (defArgs s_settled) (defBody s_settled) (defScope s_settled) .none kV14 dc14 pm14 an14 cd14 ct14), sl14⟩) (e14 : PySem.W.codeIn K cd14 "settled" = true) (k14 : PySem.W.keepIn K (.ref f14) = true)
    {f15 : Addr} {od15 an15 : Option Addr} {sl15 : Array (Option Value)} {oc15 kV15 dc15 pm15 cd15 ct15 : Value}
    (a15 : PySem.W.nsIn K mainGlobals "look_moves" = some (some (.ref f15))) (l15 : K.lookup f15 = some ⟨oc15, od15, .func (PySem.W.fnOf "look_moves" "look_moves" (defArgs s_look_moves) (defBody s_look_moves) (defScope s_look_moves) .none kV15 dc15 pm15 an15 cd15 ct15), sl15⟩) (e15 : PySem.W.codeIn K cd15 "look_moves" = true) (k15 : PySem.W.keepIn K (.ref f15) = true)
    {f16 : Addr} {od16 an16 : Option Addr} {sl16 : Array (Option Value)} {oc16 kV16 dc16 pm16 cd16 ct16 : Value}
    (a16 : PySem.W.nsIn K mainGlobals "go_along" = some (some (.ref f16))) (l16 : K.lookup f16 = some ⟨oc16, od16, .func (PySem.W.fnOf "go_along" "go_along" (defArgs s_go_along) (defBody s_go_along) (defScope s_go_along) .none kV16 dc16 pm16 an16 cd16 ct16), sl16⟩) (e16 : PySem.W.codeIn K cd16 "go_along" = true) (k16 : PySem.W.keepIn K (.ref f16) = true)
    {f17 : Addr} {od17 an17 : Option Addr} {sl17 : Array (Option Value)} {oc17 kV17 dc17 pm17 cd17 ct17 : Value}
    (a17 : PySem.W.nsIn K mainGlobals "followed" = some (some (.ref f17))) (l17 : K.lookup f17 = some ⟨oc17, od17, .func (PySem.W.fnOf "followed" "followed" (defArgs s_followed) (defBody s_followed) (defScope s_followed) .none kV17 dc17 pm17 an17 cd17 ct17), sl17⟩) (e17 : PySem.W.codeIn K cd17 "followed" = true) (k17 : PySem.W.keepIn K (.ref f17) = true)
    {f18 : Addr} {od18 an18 : Option Addr} {sl18 : Array (Option Value)} {oc18 kV18 dc18 pm18 cd18 ct18 : Value}
    (a18 : PySem.W.nsIn K mainGlobals "all_ends" = some (some (.ref f18))) (l18 : K.lookup f18 = some ⟨oc18, od18, .func (PySem.W.fnOf "all_ends" "all_ends" (defArgs s_all_ends) (defBody s_all_ends) (defScope s_all_ends) .none kV18 dc18 pm18 an18 cd18 ct18), sl18⟩) (e18 : PySem.W.codeIn K cd18 "all_ends" = true) (k18 : PySem.W.keepIn K (.ref f18) = true)
    {f19 : Addr} {od19 an19 : Option Addr} {sl19 : Array (Option Value)} {oc19 kV19 dc19 pm19 cd19 ct19 : Value}
    (a19 : PySem.W.nsIn K mainGlobals "lost_moves" = some (some (.ref f19))) (l19 : K.lookup f19 = some ⟨oc19, od19, .func (PySem.W.fnOf "lost_moves" "lost_moves" (defArgs s_lost_moves) (defBody s_lost_moves) (defScope s_lost_moves) .none kV19 dc19 pm19 an19 cd19 ct19), sl19⟩) (e19 : PySem.W.codeIn K cd19 "lost_moves" = true) (k19 : PySem.W.keepIn K (.ref f19) = true)
    {f20 : Addr} {od20 an20 : Option Addr} {sl20 : Array (Option Value)} {oc20 kV20 dc20 pm20 cd20 ct20 : Value}
    (a20 : PySem.W.nsIn K mainGlobals "power" = some (some (.ref f20))) (l20 : K.lookup f20 = some ⟨oc20, od20, .func (PySem.W.fnOf "power" "power" (defArgs s_power) (defBody s_power) (defScope s_power) .none kV20 dc20 pm20 an20 cd20 ct20), sl20⟩) (e20 : PySem.W.codeIn K cd20 "power" = true) (k20 : PySem.W.keepIn K (.ref f20) = true)
    {f21 : Addr} {od21 an21 : Option Addr} {sl21 : Array (Option Value)} {oc21 kV21 dc21 pm21 cd21 ct21 : Value}
    (a21 : PySem.W.nsIn K mainGlobals "unlike_tracks" = some (some (.ref f21))) (l21 : K.lookup f21 = some ⟨oc21, od21, .func (PySem.W.fnOf "unlike_tracks" "unlike_tracks" (defArgs s_unlike_tracks) (defBody s_unlike_tracks) (defScope s_unlike_tracks) .none kV21 dc21 pm21 an21 cd21 ct21), sl21⟩) (e21 : PySem.W.codeIn K cd21 "unlike_tracks" = true) (k21 : PySem.W.keepIn K (.ref f21) = true)
    {f22 : Addr} {od22 an22 : Option Addr} {sl22 : Array (Option Value)} {oc22 kV22 dc22 pm22 cd22 ct22 : Value}
    (a22 : PySem.W.nsIn K mainGlobals "is_plate" = some (some (.ref f22))) (l22 : K.lookup f22 = some ⟨oc22, od22, .func (PySem.W.fnOf "is_plate" "is_plate" (defArgs s_is_plate) (defBody s_is_plate) (defScope s_is_plate) .none kV22 dc22 pm22 an22 cd22 ct22), sl22⟩) (e22 : PySem.W.codeIn K cd22 "is_plate" = true) (k22 : PySem.W.keepIn K (.ref f22) = true)
    {f23 : Addr} {od23 an23 : Option Addr} {sl23 : Array (Option Value)} {oc23 kV23 dc23 pm23 cd23 ct23 : Value}
    (a23 : PySem.W.nsIn K mainGlobals "look_plate" = some (some (.ref f23))) (l23 : K.lookup f23 = some ⟨oc23, od23, .func (PySem.W.fnOf "look_plate" "look_plate" (defArgs s_look_plate) (defBody s_look_plate) (defScope s_look_plate) .none kV23 dc23 pm23 an23 cd23 ct23), sl23⟩) (e23 : PySem.W.codeIn K cd23 "look_plate" = true) (k23 : PySem.W.keepIn K (.ref f23) = true)
    {f24 : Addr} {od24 an24 : Option Addr} {sl24 : Array (Option Value)} {oc24 kV24 dc24 pm24 cd24 ct24 : Value}
    (a24 : PySem.W.nsIn K mainGlobals "changes" = some (some (.ref f24))) (l24 : K.lookup f24 = some ⟨oc24, od24, .func (PySem.W.fnOf "changes" "changes" (defArgs s_changes) (defBody s_changes) (defScope s_changes) .none kV24 dc24 pm24 an24 cd24 ct24), sl24⟩) (e24 : PySem.W.codeIn K cd24 "changes" = true) (k24 : PySem.W.keepIn K (.ref f24) = true)
    {f25 : Addr} {od25 an25 : Option Addr} {sl25 : Array (Option Value)} {oc25 kV25 dc25 pm25 cd25 ct25 : Value}
    (a25 : PySem.W.nsIn K mainGlobals "way_on" = some (some (.ref f25))) (l25 : K.lookup f25 = some ⟨oc25, od25, .func (PySem.W.fnOf "way_on" "way_on" (defArgs s_way_on) (defBody s_way_on) (defScope s_way_on) .none kV25 dc25 pm25 an25 cd25 ct25), sl25⟩) (e25 : PySem.W.codeIn K cd25 "way_on" = true) (k25 : PySem.W.keepIn K (.ref f25) = true)
    {f26 : Addr} {od26 an26 : Option Addr} {sl26 : Array (Option Value)} {oc26 kV26 dc26 pm26 cd26 ct26 : Value}
    (a26 : PySem.W.nsIn K mainGlobals "all_plates" = some (some (.ref f26))) (l26 : K.lookup f26 = some ⟨oc26, od26, .func (PySem.W.fnOf "all_plates" "all_plates" (defArgs s_all_plates) (defBody s_all_plates) (defScope s_all_plates) .none kV26 dc26 pm26 an26 cd26 ct26), sl26⟩) (e26 : PySem.W.codeIn K cd26 "all_plates" = true) (k26 : PySem.W.keepIn K (.ref f26) = true)
    {f27 cc : Addr} {od27 an27 : Option Addr} {sl27 : Array (Option Value)} {oc27 kV27 dc27 pm27 ct27 : Value}
    (a27 : PySem.W.nsIn K mainGlobals "law" = some (some (.ref f27))) (l27 : K.lookup f27 = some ⟨oc27, od27, .func (PySem.W.fnOf "law" "law" (defArgs s_law) (defBody s_law) (defScope s_law) .none kV27 dc27 pm27 an27 (.ref cc) ct27), sl27⟩) (e27 : PySem.W.codeIn K (.ref cc) "law" = true) (k27 : PySem.W.keepIn K (.ref f27) = true)
    (z_all : PySem.W.nsIn K mainGlobals "all" = some none)
    (z_bool : PySem.W.nsIn K mainGlobals "bool" = some none)
    (z_int : PySem.W.nsIn K mainGlobals "int" = some none)
    (z_isinstance : PySem.W.nsIn K mainGlobals "isinstance" = some none)
    (z_len : PySem.W.nsIn K mainGlobals "len" = some none)
    (z_list : PySem.W.nsIn K mainGlobals "list" = some none)
    (z_max : PySem.W.nsIn K mainGlobals "max" = some none)
    (z_min : PySem.W.nsIn K mainGlobals "min" = some none)
    (z_range : PySem.W.nsIn K mainGlobals "range" = some none)
    (z_set : PySem.W.nsIn K mainGlobals "set" = some none)
    (z_sorted : PySem.W.nsIn K mainGlobals "sorted" = some none)
    (z_tuple : PySem.W.nsIn K mainGlobals "tuple" = some none)
    (z_zip : PySem.W.nsIn K mainGlobals "zip" = some none)
    {p_ROUND : Addr} {n_ROUND : Nat} {t_ROUND0 t_ROUND1 t_ROUND2 t_ROUND3 : Tok} {q_ROUND : Array (Option Value)} (c_ROUND : PySem.W.nsIn K mainGlobals "ROUND" = some (some (.ref p_ROUND))) (h_ROUND : K.lookup p_ROUND = some ⟨.type "tuple", none, .seq #[.int 0 t_ROUND0, .int 1 t_ROUND1, .int 3 t_ROUND2, .int 2 t_ROUND3] n_ROUND, q_ROUND⟩)
    {t_LONGEST : Tok} (c_LONGEST : PySem.W.nsIn K mainGlobals "LONGEST" = some (some (.int 40 t_LONGEST)))
    {t_MOST_PLAY : Tok} (c_MOST_PLAY : PySem.W.nsIn K mainGlobals "MOST_PLAY" = some (some (.int 9 t_MOST_PLAY)))
    {t_MOST_MOVES : Tok} (c_MOST_MOVES : PySem.W.nsIn K mainGlobals "MOST_MOVES" = some (some (.int 40 t_MOST_MOVES)))
    {t_FARTHEST : Tok} (c_FARTHEST : PySem.W.nsIn K mainGlobals "FARTHEST" = some (some (.int 99 t_FARTHEST)))
    {t_MOST_TRACKS : Tok} (c_MOST_TRACKS : PySem.W.nsIn K mainGlobals "MOST_TRACKS" = some (some (.int 5 t_MOST_TRACKS)))
    : Txt K mg :=
  { a__law_cell := f0, d__law_cell := _, F__law_cell := fun_mk (st := s__law_cell) l0 e0 k0, g__law_cell := PySem.W.mg_of X Gg a0, b__law_cell := (fun_mk (st := s__law_cell) l0 e0 k0).binds (ps := ["script", "k"]) fun _ _ _ _ _ _ us hl => match us, hl with | [_, _], _ => rfl,
    a__law_pick := f1, d__law_pick := _, F__law_pick := fun_mk (st := s__law_pick) l1 e1 k1, g__law_pick := PySem.W.mg_of X Gg a1, b__law_pick := (fun_mk (st := s__law_pick) l1 e1 k1).binds (ps := ["script", "k", "many"]) fun _ _ _ _ _ _ us hl => match us, hl with | [_, _, _], _ => rfl,
    a__law_rough := f2, d__law_rough := _, F__law_rough := fun_mk (st := s__law_rough) l2 e2 k2, g__law_rough := PySem.W.mg_of X Gg a2, b__law_rough := (fun_mk (st := s__law_rough) l2 e2 k2).binds (ps := ["script", "at", "most"]) fun _ _ _ _ _ _ us hl => match us, hl with | [_, _, _], _ => rfl,
    a__law_moves := f3, d__law_moves := _, F__law_moves := fun_mk (st := s__law_moves) l3 e3 k3, g__law_moves := PySem.W.mg_of X Gg a3, b__law_moves := (fun_mk (st := s__law_moves) l3 e3 k3).binds (ps := ["script", "at"]) fun _ _ _ _ _ _ us hl => match us, hl with | [_, _], _ => rfl,
    a__law_stays := f4, d__law_stays := _, F__law_stays := fun_mk (st := s__law_stays) l4 e4 k4, g__law_stays := PySem.W.mg_of X Gg a4, b__law_stays := (fun_mk (st := s__law_stays) l4 e4 k4).binds (ps := ["deed"]) fun _ _ _ _ _ _ us hl => match us, hl with | [_], _ => rfl,
    a_is_whole := f5, d_is_whole := _, F_is_whole := fun_mk (st := s_is_whole) l5 e5 k5, g_is_whole := PySem.W.mg_of X Gg a5, b_is_whole := (fun_mk (st := s_is_whole) l5 e5 k5).binds (ps := ["thing", "low", "high"]) fun _ _ _ _ _ _ us hl => match us, hl with | [_, _, _], _ => rfl,
    a_is_sample := f6, d_is_sample := _, F_is_sample := fun_mk (st := s_is_sample) l6 e6 k6, g_is_sample := PySem.W.mg_of X Gg a6, b_is_sample := (fun_mk (st := s_is_sample) l6 e6 k6).binds (ps := ["thing"]) fun _ _ _ _ _ _ us hl => match us, hl with | [_], _ => rfl,
    a_is_row := f7, d_is_row := _, F_is_row := fun_mk (st := s_is_row) l7 e7 k7, g_is_row := PySem.W.mg_of X Gg a7, b_is_row := (fun_mk (st := s_is_row) l7 e7 k7).binds (ps := ["thing"]) fun _ _ _ _ _ _ us hl => match us, hl with | [_], _ => rfl,
    a_look_row := f8, d_look_row := _, F_look_row := fun_mk (st := s_look_row) l8 e8 k8, g_look_row := PySem.W.mg_of X Gg a8, b_look_row := (fun_mk (st := s_look_row) l8 e8 k8).binds (ps := ["row"]) fun _ _ _ _ _ _ us hl => match us, hl with | [_], _ => rfl,
    a_far_on := f9, d_far_on := _, F_far_on := fun_mk (st := s_far_on) l9 e9 k9, g_far_on := PySem.W.mg_of X Gg a9, b_far_on := (fun_mk (st := s_far_on) l9 e9 k9).binds (ps := ["one", "other"]) fun _ _ _ _ _ _ us hl => match us, hl with | [_, _], _ => rfl,
    a_step_between := f10, d_step_between := _, F_step_between := fun_mk (st := s_step_between) l10 e10 k10, g_step_between := PySem.W.mg_of X Gg a10, b_step_between := (fun_mk (st := s_step_between) l10 e10 k10).binds (ps := ["one", "other"]) fun _ _ _ _ _ _ us hl => match us, hl with | [_, _], _ => rfl,
    a_jumps := f11, d_jumps := _, F_jumps := fun_mk (st := s_jumps) l11 e11 k11, g_jumps := PySem.W.mg_of X Gg a11, b_jumps := (fun_mk (st := s_jumps) l11 e11 k11).binds (ps := ["row"]) fun _ _ _ _ _ _ us hl => match us, hl with | [_], _ => rfl,
    a_bounces := f12, d_bounces := _, F_bounces := fun_mk (st := s_bounces) l12 e12 k12, g_bounces := PySem.W.mg_of X Gg a12, b_bounces := (fun_mk (st := s_bounces) l12 e12 k12).binds (ps := ["row"]) fun _ _ _ _ _ _ us hl => match us, hl with | [_], _ => rfl,
    a_fitting := f13, d_fitting := _, F_fitting := fun_mk (st := s_fitting) l13 e13 k13, g_fitting := PySem.W.mg_of X Gg a13, b_fitting := (fun_mk (st := s_fitting) l13 e13 k13).binds (ps := ["row"]) fun _ _ _ _ _ _ us hl => match us, hl with | [_], _ => rfl,
    a_settled := f14, d_settled := _, F_settled := fun_mk (st := s_settled) l14 e14 k14, g_settled := PySem.W.mg_of X Gg a14, b_settled := (fun_mk (st := s_settled) l14 e14 k14).binds (ps := ["row", "many"]) fun _ _ _ _ _ _ us hl => match us, hl with | [_, _], _ => rfl,
    a_look_moves := f15, d_look_moves := _, F_look_moves := fun_mk (st := s_look_moves) l15 e15 k15, g_look_moves := PySem.W.mg_of X Gg a15, b_look_moves := (fun_mk (st := s_look_moves) l15 e15 k15).binds (ps := ["moves", "play"]) fun _ _ _ _ _ _ us hl => match us, hl with | [_, _], _ => rfl,
    a_go_along := f16, d_go_along := _, F_go_along := fun_mk (st := s_go_along) l16 e16 k16, g_go_along := PySem.W.mg_of X Gg a16, b_go_along := (fun_mk (st := s_go_along) l16 e16 k16).binds (ps := ["moves", "play", "begin"]) fun _ _ _ _ _ _ us hl => match us, hl with | [_, _, _], _ => rfl,
    a_followed := f17, d_followed := _, F_followed := fun_mk (st := s_followed) l17 e17 k17, g_followed := PySem.W.mg_of X Gg a17, b_followed := (fun_mk (st := s_followed) l17 e17 k17).binds (ps := ["moves", "play", "begin"]) fun _ _ _ _ _ _ us hl => match us, hl with | [_, _, _], _ => rfl,
    a_all_ends := f18, d_all_ends := _, F_all_ends := fun_mk (st := s_all_ends) l18 e18 k18, g_all_ends := PySem.W.mg_of X Gg a18, b_all_ends := (fun_mk (st := s_all_ends) l18 e18 k18).binds (ps := ["moves", "play"]) fun _ _ _ _ _ _ us hl => match us, hl with | [_, _], _ => rfl,
    a_lost_moves := f19, d_lost_moves := _, F_lost_moves := fun_mk (st := s_lost_moves) l19 e19 k19, g_lost_moves := PySem.W.mg_of X Gg a19, b_lost_moves := (fun_mk (st := s_lost_moves) l19 e19 k19).binds (ps := ["moves", "play", "begin"]) fun _ _ _ _ _ _ us hl => match us, hl with | [_, _, _], _ => rfl,
    a_power := f20, d_power := _, F_power := fun_mk (st := s_power) l20 e20 k20, g_power := PySem.W.mg_of X Gg a20, b_power := (fun_mk (st := s_power) l20 e20 k20).binds (ps := ["many"]) fun _ _ _ _ _ _ us hl => match us, hl with | [_], _ => rfl,
    a_unlike_tracks := f21, d_unlike_tracks := _, F_unlike_tracks := fun_mk (st := s_unlike_tracks) l21 e21 k21, g_unlike_tracks := PySem.W.mg_of X Gg a21, b_unlike_tracks := (fun_mk (st := s_unlike_tracks) l21 e21 k21).binds (ps := ["one", "other", "many"]) fun _ _ _ _ _ _ us hl => match us, hl with | [_, _, _], _ => rfl,
    a_is_plate := f22, d_is_plate := _, F_is_plate := fun_mk (st := s_is_plate) l22 e22 k22, g_is_plate := PySem.W.mg_of X Gg a22, b_is_plate := (fun_mk (st := s_is_plate) l22 e22 k22).binds (ps := ["many", "thing"]) fun _ _ _ _ _ _ us hl => match us, hl with | [_, _], _ => rfl,
    a_look_plate := f23, d_look_plate := _, F_look_plate := fun_mk (st := s_look_plate) l23 e23 k23, g_look_plate := PySem.W.mg_of X Gg a23, b_look_plate := (fun_mk (st := s_look_plate) l23 e23 k23).binds (ps := ["many", "plate"]) fun _ _ _ _ _ _ us hl => match us, hl with | [_, _], _ => rfl,
    a_changes := f24, d_changes := _, F_changes := fun_mk (st := s_changes) l24 e24 k24, g_changes := PySem.W.mg_of X Gg a24, b_changes := (fun_mk (st := s_changes) l24 e24 k24).binds (ps := ["many", "plate"]) fun _ _ _ _ _ _ us hl => match us, hl with | [_, _], _ => rfl,
    a_way_on := f25, d_way_on := _, F_way_on := fun_mk (st := s_way_on) l25 e25 k25, g_way_on := PySem.W.mg_of X Gg a25, b_way_on := (fun_mk (st := s_way_on) l25 e25 k25).binds (ps := ["many", "plate", "codes"]) fun _ _ _ _ _ _ us hl => match us, hl with | [_, _, _], _ => rfl,
    a_all_plates := f26, d_all_plates := _, F_all_plates := fun_mk (st := s_all_plates) l26 e26 k26, g_all_plates := PySem.W.mg_of X Gg a26, b_all_plates := (fun_mk (st := s_all_plates) l26 e26 k26).binds (ps := ["many", "size"]) fun _ _ _ _ _ _ us hl => match us, hl with | [_, _], _ => rfl,
    a_law := f27, d_law := _, F_law := fun_mk (st := s_law) l27 e27 k27, g_law := PySem.W.mg_of X Gg a27, b_law := (fun_mk (st := s_law) l27 e27 k27).binds (ps := ["script"]) fun _ _ _ _ _ _ us hl => match us, hl with | [_], _ => rfl,
    z_all := PySem.W.mg_none_of X Gg z_all,
    z_bool := PySem.W.mg_none_of X Gg z_bool,
    z_int := PySem.W.mg_none_of X Gg z_int,
    z_isinstance := PySem.W.mg_none_of X Gg z_isinstance,
    z_len := PySem.W.mg_none_of X Gg z_len,
    z_list := PySem.W.mg_none_of X Gg z_list,
    z_max := PySem.W.mg_none_of X Gg z_max,
    z_min := PySem.W.mg_none_of X Gg z_min,
    z_range := PySem.W.mg_none_of X Gg z_range,
    z_set := PySem.W.mg_none_of X Gg z_set,
    z_sorted := PySem.W.mg_none_of X Gg z_sorted,
    z_tuple := PySem.W.mg_none_of X Gg z_tuple,
    z_zip := PySem.W.mg_none_of X Gg z_zip,
    c_ROUND := ⟨⟨p_ROUND, _, _, _, PySem.W.mg_of X Gg c_ROUND, h_ROUND, rfl, rfl, rfl, (show (4 : Nat) ≤ sizeLine by decide), (.cons ⟨_, rfl⟩ (.cons ⟨_, rfl⟩ (.cons ⟨_, rfl⟩ (.cons ⟨_, rfl⟩ .nil))))⟩⟩,
    t_LONGEST := t_LONGEST, c_LONGEST := PySem.W.mg_of X Gg c_LONGEST,
    t_MOST_PLAY := t_MOST_PLAY, c_MOST_PLAY := PySem.W.mg_of X Gg c_MOST_PLAY,
    t_MOST_MOVES := t_MOST_MOVES, c_MOST_MOVES := PySem.W.mg_of X Gg c_MOST_MOVES,
    t_FARTHEST := t_FARTHEST, c_FARTHEST := PySem.W.mg_of X Gg c_FARTHEST,
    t_MOST_TRACKS := t_MOST_TRACKS, c_MOST_TRACKS := PySem.W.mg_of X Gg c_MOST_TRACKS }
/-- the law's promise: what its mirror tells of every script -/
def spLaw (K : PySem.W.Frag) (Pt : Addr) : Sp := fun vs H Qk _ => ∃ (a : Addr) (ns : List Int), vs = [.ref a] ∧ SqL K H a (ns.map V.int) ∧ TabQ H Pt ∧ m_law (pick ns) [SCR] = .rt (.bool true) ∧ ∀ H', Qk (.bl true) H'
theorem law_end {Pr : Program} {w : World} {K : PySem.W.Frag} {mg : Str → Option Value} {base : Heap} {k : Nat} {f Pt : Addr} {fd : FuncData} (F : ∀ ns : List Int, FnOk Pr w K mg base CX0 k f fd ["script"] (spT K ⟨ns, fun _ => none⟩ mg Pt (m_law (pick ns)))) : FnOk Pr w K mg base CX0 k f fd ["script"] (spLaw K Pt) := by
  refine ⟨fun vs H Qk E ⟨a, ns, e, _⟩ => by rw [e]; rfl, fun A outer s H args us vs Qk E hr he hb hv h => ?_⟩
  obtain ⟨a, ns, e, hs, hT, hm, hq⟩ := h
  refine (F ns).run A outer s H args us vs Qk E hr he hb hv ?_
  subst e
  refine ⟨hT, unt H, [SCR], unt_sub H, .cons (.scr (scr_unt hs)) .nil, ?_⟩
  rw [hm]
  intro G' H' v _ q
  cases q
  exact hq H'
theorem all_mk {l : PySem.W.OpenLaw} {w : World} {K : PySem.W.Frag} {h : Heap} {mg : Str → Option Value} {fa Pt : Addr} (X : K.In h) (Gg : h.Ns mainGlobals mg) (hfa : mg "law" = some (.ref fa))
    {f0 : Addr} {od0 an0 : Option Addr} {sl0 : Array (Option Value)} {oc0 kV0 dc0 pm0 cd0 ct0 : Value}
    (a0 : PySem.W.nsIn K mainGlobals "_law_cell" = some (some (.ref f0))) (l0 : K.lookup f0 = some ⟨oc0, od0, .func (PySem.W.fnOf "_law_cell" "_law_cell" (defArgs s__law_cell) (defBody s__law_cell) (defScope s__law_cell) .none kV0 dc0 pm0 an0 cd0 ct0), sl0⟩) (e0 : PySem.W.codeIn K cd0 "_law_cell" = true) (k0 : PySem.W.keepIn K (.ref f0) = true)
    {f1 : Addr} {od1 an1 : Option Addr} {sl1 : Array (Option Value)} {oc1 kV1 dc1 pm1 cd1 ct1 : Value}
    (a1 : PySem.W.nsIn K mainGlobals "_law_pick" = some (some (.ref f1))) (l1 : K.lookup f1 = some ⟨oc1, od1, .func (PySem.W.fnOf "_law_pick" "_law_pick" (defArgs s__law_pick) (defBody s__law_pick) (defScope s__law_pick) .none kV1 dc1 pm1 an1 cd1 ct1), sl1⟩) (e1 : PySem.W.codeIn K cd1 "_law_pick" = true) (k1 : PySem.W.keepIn K (.ref f1) = true)
    {f2 : Addr} {od2 an2 : Option Addr} {sl2 : Array (Option Value)} {oc2 kV2 dc2 pm2 cd2 ct2 : Value}
    (a2 : PySem.W.nsIn K mainGlobals "_law_rough" = some (some (.ref f2))) (l2 : K.lookup f2 = some ⟨oc2, od2, .func (PySem.W.fnOf "_law_rough" "_law_rough" (defArgs s__law_rough) (defBody s__law_rough) (defScope s__law_rough) .none kV2 dc2 pm2 an2 cd2 ct2), sl2⟩) (e2 : PySem.W.codeIn K cd2 "_law_rough" = true) (k2 : PySem.W.keepIn K (.ref f2) = true)
    {f3 : Addr} {od3 an3 : Option Addr} {sl3 : Array (Option Value)} {oc3 kV3 dc3 pm3 cd3 ct3 : Value}
    (a3 : PySem.W.nsIn K mainGlobals "_law_moves" = some (some (.ref f3))) (l3 : K.lookup f3 = some ⟨oc3, od3, .func (PySem.W.fnOf "_law_moves" "_law_moves" (defArgs s__law_moves) (defBody s__law_moves) (defScope s__law_moves) .none kV3 dc3 pm3 an3 cd3 ct3), sl3⟩) (e3 : PySem.W.codeIn K cd3 "_law_moves" = true) (k3 : PySem.W.keepIn K (.ref f3) = true)
    {f4 : Addr} {od4 an4 : Option Addr} {sl4 : Array (Option Value)} {oc4 kV4 dc4 pm4 cd4 ct4 : Value}
    (a4 : PySem.W.nsIn K mainGlobals "_law_stays" = some (some (.ref f4))) (l4 : K.lookup f4 = some ⟨oc4, od4, .func (PySem.W.fnOf "_law_stays" "_law_stays" (defArgs s__law_stays) (defBody s__law_stays) (defScope s__law_stays) .none kV4 dc4 pm4 an4 cd4 ct4), sl4⟩) (e4 : PySem.W.codeIn K cd4 "_law_stays" = true) (k4 : PySem.W.keepIn K (.ref f4) = true)
    {f5 : Addr} {od5 an5 : Option Addr} {sl5 : Array (Option Value)} {oc5 kV5 dc5 pm5 cd5 ct5 : Value}
    (a5 : PySem.W.nsIn K mainGlobals "is_whole" = some (some (.ref f5))) (l5 : K.lookup f5 = some ⟨oc5, od5, .func (PySem.W.fnOf "is_whole" "is_whole" (defArgs s_is_whole) (defBody s_is_whole) (defScope s_is_whole) .none kV5 dc5 pm5 an5 cd5 ct5), sl5⟩) (e5 : PySem.W.codeIn K cd5 "is_whole" = true) (k5 : PySem.W.keepIn K (.ref f5) = true)
    {f6 : Addr} {od6 an6 : Option Addr} {sl6 : Array (Option Value)} {oc6 kV6 dc6 pm6 cd6 ct6 : Value}
    (a6 : PySem.W.nsIn K mainGlobals "is_sample" = some (some (.ref f6))) (l6 : K.lookup f6 = some ⟨oc6, od6, .func (PySem.W.fnOf "is_sample" "is_sample" (defArgs s_is_sample) (defBody s_is_sample) (defScope s_is_sample) .none kV6 dc6 pm6 an6 cd6 ct6), sl6⟩) (e6 : PySem.W.codeIn K cd6 "is_sample" = true) (k6 : PySem.W.keepIn K (.ref f6) = true)
    {f7 : Addr} {od7 an7 : Option Addr} {sl7 : Array (Option Value)} {oc7 kV7 dc7 pm7 cd7 ct7 : Value}
    (a7 : PySem.W.nsIn K mainGlobals "is_row" = some (some (.ref f7))) (l7 : K.lookup f7 = some ⟨oc7, od7, .func (PySem.W.fnOf "is_row" "is_row" (defArgs s_is_row) (defBody s_is_row) (defScope s_is_row) .none kV7 dc7 pm7 an7 cd7 ct7), sl7⟩) (e7 : PySem.W.codeIn K cd7 "is_row" = true) (k7 : PySem.W.keepIn K (.ref f7) = true)
    {f8 : Addr} {od8 an8 : Option Addr} {sl8 : Array (Option Value)} {oc8 kV8 dc8 pm8 cd8 ct8 : Value}
    (a8 : PySem.W.nsIn K mainGlobals "look_row" = some (some (.ref f8))) (l8 : K.lookup f8 = some ⟨oc8, od8, .func (PySem.W.fnOf "look_row" "look_row" (defArgs s_look_row) (defBody s_look_row) (defScope s_look_row) .none kV8 dc8 pm8 an8 cd8 ct8), sl8⟩) (e8 : PySem.W.codeIn K cd8 "look_row" = true) (k8 : PySem.W.keepIn K (.ref f8) = true)
    {f9 : Addr} {od9 an9 : Option Addr} {sl9 : Array (Option Value)} {oc9 kV9 dc9 pm9 cd9 ct9 : Value}
    (a9 : PySem.W.nsIn K mainGlobals "far_on" = some (some (.ref f9))) (l9 : K.lookup f9 = some ⟨oc9, od9, .func (PySem.W.fnOf "far_on" "far_on" (defArgs s_far_on) (defBody s_far_on) (defScope s_far_on) .none kV9 dc9 pm9 an9 cd9 ct9), sl9⟩) (e9 : PySem.W.codeIn K cd9 "far_on" = true) (k9 : PySem.W.keepIn K (.ref f9) = true)
    {f10 : Addr} {od10 an10 : Option Addr} {sl10 : Array (Option Value)} {oc10 kV10 dc10 pm10 cd10 ct10 : Value}
    (a10 : PySem.W.nsIn K mainGlobals "step_between" = some (some (.ref f10))) (l10 : K.lookup f10 = some ⟨oc10, od10, .func (PySem.W.fnOf "step_between" "step_between" (defArgs s_step_between) (defBody s_step_between) (defScope s_step_between) .none kV10 dc10 pm10 an10 cd10 ct10), sl10⟩) (e10 : PySem.W.codeIn K cd10 "step_between" = true) (k10 : PySem.W.keepIn K (.ref f10) = true)
    {f11 : Addr} {od11 an11 : Option Addr} {sl11 : Array (Option Value)} {oc11 kV11 dc11 pm11 cd11 ct11 : Value}
    (a11 : PySem.W.nsIn K mainGlobals "jumps" = some (some (.ref f11))) (l11 : K.lookup f11 = some ⟨oc11, od11, .func (PySem.W.fnOf "jumps" "jumps" (defArgs s_jumps) (defBody s_jumps) (defScope s_jumps) .none kV11 dc11 pm11 an11 cd11 ct11), sl11⟩) (e11 : PySem.W.codeIn K cd11 "jumps" = true) (k11 : PySem.W.keepIn K (.ref f11) = true)
    {f12 : Addr} {od12 an12 : Option Addr} {sl12 : Array (Option Value)} {oc12 kV12 dc12 pm12 cd12 ct12 : Value}
    (a12 : PySem.W.nsIn K mainGlobals "bounces" = some (some (.ref f12))) (l12 : K.lookup f12 = some ⟨oc12, od12, .func (PySem.W.fnOf "bounces" "bounces" (defArgs s_bounces) (defBody s_bounces) (defScope s_bounces) .none kV12 dc12 pm12 an12 cd12 ct12), sl12⟩) (e12 : PySem.W.codeIn K cd12 "bounces" = true) (k12 : PySem.W.keepIn K (.ref f12) = true)
    {f13 : Addr} {od13 an13 : Option Addr} {sl13 : Array (Option Value)} {oc13 kV13 dc13 pm13 cd13 ct13 : Value}
    (a13 : PySem.W.nsIn K mainGlobals "fitting" = some (some (.ref f13))) (l13 : K.lookup f13 = some ⟨oc13, od13, .func (PySem.W.fnOf "fitting" "fitting" (defArgs s_fitting) (defBody s_fitting) (defScope s_fitting) .none kV13 dc13 pm13 an13 cd13 ct13), sl13⟩) (e13 : PySem.W.codeIn K cd13 "fitting" = true) (k13 : PySem.W.keepIn K (.ref f13) = true)
    {f14 : Addr} {od14 an14 : Option Addr} {sl14 : Array (Option Value)} {oc14 kV14 dc14 pm14 cd14 ct14 : Value}
    (a14 : PySem.W.nsIn K mainGlobals "settled" = some (some (.ref f14))) (l14 : K.lookup f14 = some ⟨oc14, od14, .func (PySem.W.fnOf "settled" "settled" (defArgs s_settled) (defBody s_settled) (defScope s_settled) .none kV14 dc14 pm14 an14 cd14 ct14), sl14⟩) (e14 : PySem.W.codeIn K cd14 "settled" = true) (k14 : PySem.W.keepIn K (.ref f14) = true)
    {f15 : Addr} {od15 an15 : Option Addr} {sl15 : Array (Option Value)} {oc15 kV15 dc15 pm15 cd15 ct15 : Value}
    (a15 : PySem.W.nsIn K mainGlobals "look_moves" = some (some (.ref f15))) (l15 : K.lookup f15 = some ⟨oc15, od15, .func (PySem.W.fnOf "look_moves" "look_moves" (defArgs s_look_moves) (defBody s_look_moves) (defScope s_look_moves) .none kV15 dc15 pm15 an15 cd15 ct15), sl15⟩) (e15 : PySem.W.codeIn K cd15 "look_moves" = true) (k15 : PySem.W.keepIn K (.ref f15) = true)
    {f16 : Addr} {od16 an16 : Option Addr} {sl16 : Array (Option Value)} {oc16 kV16 dc16 pm16 cd16 ct16 : Value}
    (a16 : PySem.W.nsIn K mainGlobals "go_along" = some (some (.ref f16))) (l16 : K.lookup f16 = some ⟨oc16, od16, .func (PySem.W.fnOf "go_along" "go_along" (defArgs s_go_along) (defBody s_go_along) (defScope s_go_along) .none kV16 dc16 pm16 an16 cd16 ct16), sl16⟩) (e16 : PySem.W.codeIn K cd16 "go_along" = true) (k16 : PySem.W.keepIn K (.ref f16) = true)
    {f17 : Addr} {od17 an17 : Option Addr} {sl17 : Array (Option Value)} {oc17 kV17 dc17 pm17 cd17 ct17 : Value}
    (a17 : PySem.W.nsIn K mainGlobals "followed" = some (some (.ref f17))) (l17 : K.lookup f17 = some ⟨oc17, od17, .func (PySem.W.fnOf "followed" "followed" (defArgs s_followed) (defBody s_followed) (defScope s_followed) .none kV17 dc17 pm17 an17 cd17 ct17), sl17⟩) (e17 : PySem.W.codeIn K cd17 "followed" = true) (k17 : PySem.W.keepIn K (.ref f17) = true)
    {f18 : Addr} {od18 an18 : Option Addr} {sl18 : Array (Option Value)} {oc18 kV18 dc18 pm18 cd18 ct18 : Value}
    (a18 : PySem.W.nsIn K mainGlobals "all_ends" = some (some (.ref f18))) (l18 : K.lookup f18 = some ⟨oc18, od18, .func (PySem.W.fnOf "all_ends" "all_ends" (defArgs s_all_ends) (defBody s_all_ends) (defScope s_all_ends) .none kV18 dc18 pm18 an18 cd18 ct18), sl18⟩) (e18 : PySem.W.codeIn K cd18 "all_ends" = true) (k18 : PySem.W.keepIn K (.ref f18) = true)
    {f19 : Addr} {od19 an19 : Option Addr} {sl19 : Array (Option Value)} {oc19 kV19 dc19 pm19 cd19 ct19 : Value}
    (a19 : PySem.W.nsIn K mainGlobals "lost_moves" = some (some (.ref f19))) (l19 : K.lookup f19 = some ⟨oc19, od19, .func (PySem.W.fnOf "lost_moves" "lost_moves" (defArgs s_lost_moves) (defBody s_lost_moves) (defScope s_lost_moves) .none kV19 dc19 pm19 an19 cd19 ct19), sl19⟩) (e19 : PySem.W.codeIn K cd19 "lost_moves" = true) (k19 : PySem.W.keepIn K (.ref f19) = true)
    {f20 : Addr} {od20 an20 : Option Addr} {sl20 : Array (Option Value)} {oc20 kV20 dc20 pm20 cd20 ct20 : Value}
    (a20 : PySem.W.nsIn K mainGlobals "power" = some (some (.ref f20))) (l20 : K.lookup f20 = some ⟨oc20, od20, .func (PySem.W.fnOf "power" "power" (defArgs s_power) (defBody s_power) (defScope s_power) .none kV20 dc20 pm20 an20 cd20 ct20), sl20⟩) (e20 : PySem.W.codeIn K cd20 "power" = true) (k20 : PySem.W.keepIn K (.ref f20) = true)
    {f21 : Addr} {od21 an21 : Option Addr} {sl21 : Array (Option Value)} {oc21 kV21 dc21 pm21 cd21 ct21 : Value}
    (a21 : PySem.W.nsIn K mainGlobals "unlike_tracks" = some (some (.ref f21))) (l21 : K.lookup f21 = some ⟨oc21, od21, .func (PySem.W.fnOf "unlike_tracks" "unlike_tracks" (defArgs s_unlike_tracks) (defBody s_unlike_tracks) (defScope s_unlike_tracks) .none kV21 dc21 pm21 an21 cd21 ct21), sl21⟩) (e21 : PySem.W.codeIn K cd21 "unlike_tracks" = true) (k21 : PySem.W.keepIn K (.ref f21) = true)
    {f22 : Addr} {od22 an22 : Option Addr} {sl22 : Array (Option Value)} {oc22 kV22 dc22 pm22 cd22 ct22 : Value}
    (a22 : PySem.W.nsIn K mainGlobals "is_plate" = some (some (.ref f22))) (l22 : K.lookup f22 = some ⟨oc22, od22, .func (PySem.W.fnOf "is_plate" "is_plate" (defArgs s_is_plate) (defBody s_is_plate) (defScope s_is_plate) .none kV22 dc22 pm22 an22 cd22 ct22), sl22⟩) (e22 : PySem.W.codeIn K cd22 "is_plate" = true) (k22 : PySem.W.keepIn K (.ref f22) = true)
    {f23 : Addr} {od23 an23 : Option Addr} {sl23 : Array (Option Value)} {oc23 kV23 dc23 pm23 cd23 ct23 : Value}
    (a23 : PySem.W.nsIn K mainGlobals "look_plate" = some (some (.ref f23))) (l23 : K.lookup f23 = some ⟨oc23, od23, .func (PySem.W.fnOf "look_plate" "look_plate" (defArgs s_look_plate) (defBody s_look_plate) (defScope s_look_plate) .none kV23 dc23 pm23 an23 cd23 ct23), sl23⟩) (e23 : PySem.W.codeIn K cd23 "look_plate" = true) (k23 : PySem.W.keepIn K (.ref f23) = true)
    {f24 : Addr} {od24 an24 : Option Addr} {sl24 : Array (Option Value)} {oc24 kV24 dc24 pm24 cd24 ct24 : Value}
    (a24 : PySem.W.nsIn K mainGlobals "changes" = some (some (.ref f24))) (l24 : K.lookup f24 = some ⟨oc24, od24, .func (PySem.W.fnOf "changes" "changes" (defArgs s_changes) (defBody s_changes) (defScope s_changes) .none kV24 dc24 pm24 an24 cd24 ct24), sl24⟩) (e24 : PySem.W.codeIn K cd24 "changes" = true) (k24 : PySem.W.keepIn K (.ref f24) = true)
    {f25 : Addr} {od25 an25 : Option Addr} {sl25 : Array (Option Value)} {oc25 kV25 dc25 pm25 cd25 ct25 : Value}
    (a25 : PySem.W.nsIn K mainGlobals "way_on" = some (some (.ref f25))) (l25 : K.lookup f25 = some ⟨oc25, od25, .func (PySem.W.fnOf "way_on" "way_on" (defArgs s_way_on) (defBody s_way_on) (defScope s_way_on) .none kV25 dc25 pm25 an25 cd25 ct25), sl25⟩) (e25 : PySem.W.codeIn K cd25 "way_on" = true) (k25 : PySem.W.keepIn K (.ref f25) = true)
    {f26 : Addr} {od26 an26 : Option Addr} {sl26 : Array (Option Value)} {oc26 kV26 dc26 pm26 cd26 ct26 : Value}
    (a26 : PySem.W.nsIn K mainGlobals "all_plates" = some (some (.ref f26))) (l26 : K.lookup f26 = some ⟨oc26, od26, .func (PySem.W.fnOf "all_plates" "all_plates" (defArgs s_all_plates) (defBody s_all_plates) (defScope s_all_plates) .none kV26 dc26 pm26 an26 cd26 ct26), sl26⟩) (e26 : PySem.W.codeIn K cd26 "all_plates" = true) (k26 : PySem.W.keepIn K (.ref f26) = true)
    {f27 cc : Addr} {od27 an27 : Option Addr} {sl27 : Array (Option Value)} {oc27 kV27 dc27 pm27 ct27 : Value}
    (a27 : PySem.W.nsIn K mainGlobals "law" = some (some (.ref f27))) (l27 : K.lookup f27 = some ⟨oc27, od27, .func (PySem.W.fnOf "law" "law" (defArgs s_law) (defBody s_law) (defScope s_law) .none kV27 dc27 pm27 an27 (.ref cc) ct27), sl27⟩) (e27 : PySem.W.codeIn K (.ref cc) "law" = true) (k27 : PySem.W.keepIn K (.ref f27) = true)
    (z_all : PySem.W.nsIn K mainGlobals "all" = some none)
    (z_bool : PySem.W.nsIn K mainGlobals "bool" = some none)
    (z_int : PySem.W.nsIn K mainGlobals "int" = some none)
    (z_isinstance : PySem.W.nsIn K mainGlobals "isinstance" = some none)
    (z_len : PySem.W.nsIn K mainGlobals "len" = some none)
    (z_list : PySem.W.nsIn K mainGlobals "list" = some none)
    (z_max : PySem.W.nsIn K mainGlobals "max" = some none)
    (z_min : PySem.W.nsIn K mainGlobals "min" = some none)
    (z_range : PySem.W.nsIn K mainGlobals "range" = some none)
    (z_set : PySem.W.nsIn K mainGlobals "set" = some none)
    (z_sorted : PySem.W.nsIn K mainGlobals "sorted" = some none)
    (z_tuple : PySem.W.nsIn K mainGlobals "tuple" = some none)
    (z_zip : PySem.W.nsIn K mainGlobals "zip" = some none)
    {p_ROUND : Addr} {n_ROUND : Nat} {t_ROUND0 t_ROUND1 t_ROUND2 t_ROUND3 : Tok} {q_ROUND : Array (Option Value)} (c_ROUND : PySem.W.nsIn K mainGlobals "ROUND" = some (some (.ref p_ROUND))) (h_ROUND : K.lookup p_ROUND = some ⟨.type "tuple", none, .seq #[.int 0 t_ROUND0, .int 1 t_ROUND1, .int 3 t_ROUND2, .int 2 t_ROUND3] n_ROUND, q_ROUND⟩)
    {t_LONGEST : Tok} (c_LONGEST : PySem.W.nsIn K mainGlobals "LONGEST" = some (some (.int 40 t_LONGEST)))
    {t_MOST_PLAY : Tok} (c_MOST_PLAY : PySem.W.nsIn K mainGlobals "MOST_PLAY" = some (some (.int 9 t_MOST_PLAY)))
    {t_MOST_MOVES : Tok} (c_MOST_MOVES : PySem.W.nsIn K mainGlobals "MOST_MOVES" = some (some (.int 40 t_MOST_MOVES)))
    {t_FARTHEST : Tok} (c_FARTHEST : PySem.W.nsIn K mainGlobals "FARTHEST" = some (some (.int 99 t_FARTHEST)))
    {t_MOST_TRACKS : Tok} (c_MOST_TRACKS : PySem.W.nsIn K mainGlobals "MOST_TRACKS" = some (some (.int 5 t_MOST_TRACKS)))
    (hTP : h.get? Pt = some { cls := .none, data := .fields #[] }) (nTP : K.lookup Pt = none) (cHd : PySem.W.codeHdIn K cc Pt = true) (hlaw : ∀ ns : List Int, ns.length ≤ 63 → m_law (pick ns) [SCR] = .rt (.bool true))
    : LamX.LawAtS l w K CX0 8 63 "script" mg fa h := by
  have e := hfa.symm.trans (PySem.W.mg_of X Gg a27)
  cases e
  refine ⟨PySem.W.fnOf "law" "law" (defArgs s_law) (defBody s_law) (defScope s_law) .none kV27 dc27 pm27 an27 (.ref cc) ct27, [(cc, Pt)], spLaw K Pt, ?_, ?_, ?_, fun s v => .of_eq rfl, ?_, ?_⟩
  · intro p hp; cases hp with | head => exact hTP | tail _ h => cases h
  · intro p hp; cases hp with | head => exact nTP | tail _ h => cases h
  · intro p hp; cases hp with | head => exact PySem.W.codeHd_of_K X cHd | tail _ h => cases h
  · intro H a ns hl _ hH hS
    exact ⟨a, ns, rfl, hS, TabQ.nil (hH (cc, Pt) (List.mem_cons_self)), hlaw ns hl, fun _ => rfl⟩
  · intro base b1 b2 hTB
    exact law_end fun ns => ok_law (txt_mk X Gg a0 l0 e0 k0 a1 l1 e1 k1 a2 l2 e2 k2 a3 l3 e3 k3 a4 l4 e4 k4 a5 l5 e5 k5 a6 l6 e6 k6 a7 l7 e7 k7 a8 l8 e8 k8 a9 l9 e9 k9 a10 l10 e10 k10 a11 l11 e11 k11 a12 l12 e12 k12 a13 l13 e13 k13 a14 l14 e14 k14 a15 l15 e15 k15 a16 l16 e16 k16 a17 l17 e17 k17 a18 l18 e18 k18 a19 l19 e19 k19 a20 l20 e20 k20 a21 l21 e21 k21 a22 l22 e22 k22 a23 l23 e23 k23 a24 l24 e24 k24 a25 l25 e25 k25 a26 l26 e26 k26 a27 l27 e27 k27 z_all z_bool z_int z_isinstance z_len z_list z_max z_min z_range z_set z_sorted z_tuple z_zip c_ROUND h_ROUND c_LONGEST c_MOST_PLAY c_MOST_MOVES c_FARTHEST c_MOST_TRACKS) l27 e27 (hTB (cc, Pt) (List.mem_cons_self))
end G

namespace G
open M PySem
theorem m_whole (i lo hi : Int) : m_is_whole [.int i, .int lo, .int hi] = .rt (.bool (decide (lo ≤ i) && decide (i ≤ hi))) := by
  by_cases h1 : lo ≤ i
  · by_cases h2 : i ≤ hi <;> simp [m_is_whole, tl0_is_whole, fnM0, fnM, sSeq, sIf, sRet, sRetN, sSet, sNil, sDrop, sPar, sPar3, sPar4, sUnp, sApp, sExt, sPut, sFrz, own, frz, nD, nO, nLst, e1, e2, nm, bnm, cst, bv, chE, andT, orT, notT, andV, orV, notV, ifE, cons', tupE, lstE, asB, M.call, ncall, lcall, flatR, flatD, Out.r, Out.s, R.bind, R.of, R.out, pickF, bName, bTup, bNames, itE, items, sFor, lcD, sBad, yes, addD, subD, mulD, fdivD, modD, negD, ltD, leD, gtD, geD, isD, isntD, isNone, lenD, absD, maxD, minD, M.intD, listD, tupleD, isiE, isiTE, isi, isDict, allD, anyD, sumD, h1, h2]
  · simp [m_is_whole, tl0_is_whole, fnM0, fnM, sSeq, sIf, sRet, sRetN, sSet, sNil, sDrop, sPar, sPar3, sPar4, sUnp, sApp, sExt, sPut, sFrz, own, frz, nD, nO, nLst, e1, e2, nm, bnm, cst, bv, chE, andT, orT, notT, andV, orV, notV, ifE, cons', tupE, lstE, asB, M.call, ncall, lcall, flatR, flatD, Out.r, Out.s, R.bind, R.of, R.out, pickF, bName, bTup, bNames, itE, items, sFor, lcD, sBad, yes, addD, subD, mulD, fdivD, modD, negD, ltD, leD, gtD, geD, isD, isntD, isNone, lenD, absD, maxD, minD, M.intD, listD, tupleD, isiE, isiTE, isi, isDict, allD, anyD, sumD, h1]
end G
namespace G
open M PySem
def leaf : D → Bool
  | .int _ => true
  | .bool _ => true
  | .none => true
  | _ => false
theorem lay_leafs : ∀ xs : List D, xs.all leaf = true → PyData.canLayAll0 xs = true
  | [], _ => by simp [PyData.canLayAll0]
  | x :: xs, h => by
    simp only [List.all_cons, Bool.and_eq_true] at h
    have ih := lay_leafs xs h.2
    cases x <;> first | (simp [leaf] at h; done) | simp [PyData.canLayAll0, PyData.canLay0, ih]
theorem depth_leafs : ∀ xs : List D, xs.all leaf = true → PyData.depthAll xs = 0
  | [], _ => by simp [PyData.depthAll]
  | x :: xs, h => by
    simp only [List.all_cons, Bool.and_eq_true] at h
    have ih := depth_leafs xs h.2
    cases x <;> first | (simp [leaf] at h; done) | simp [PyData.depthAll, PyData.depth, ih]
theorem shaped_leafs {xs : List D} (h : xs.all leaf = true) : SeqAt.shaped (.list xs) = true := by
  simp [SeqAt.shaped, PyData.canLay0, lay_leafs xs h, PyData.depth, depth_leafs xs h]
theorem eqv_leafs : ∀ xs : List D, xs.all leaf = true → PyData.eqvAll xs xs = true
  | [], _ => by simp [PyData.eqvAll]
  | x :: xs, h => by
    simp only [List.all_cons, Bool.and_eq_true] at h
    have ih := eqv_leafs xs h.2
    cases x <;> first | (simp [leaf] at h; done) | simp [PyData.eqvAll, PyData.eqv, ih]
theorem neD_same {xs : List D} (h : xs.all leaf = true) : neD (.list xs) (.list xs) = some false := by
  unfold neD
  rw [shaped_leafs h, if_pos (by rfl)]
  simp [PyData.eqv, eqv_leafs xs h]
theorem eqD_same {xs : List D} (h : xs.all leaf = true) : eqD (.list xs) (.list xs) = some true := by
  unfold eqD
  rw [shaped_leafs h, if_pos (by rfl)]
  simp [PyData.eqv, eqv_leafs xs h]
theorem leaf_opt (o : Option Int) : leaf (optD o) = true := by cases o <;> rfl
theorem ixT (row : List Int) (i : Nat) (h : i < row.length) : ixD (.tuple (row.map .int)) (.int (i : Nat)) = some (.int (row.getD i 0)) := by
  simp only [ixD, L2.atI, L2.ixN, List.length_map]
  rw [if_pos (by omega), if_pos (by omega)]
  simp [h, List.getD_eq_getElem?_getD]
theorem ixL {α : Type} (f : α → D) (row : List α) (i : Nat) (h : i < row.length) : ixD (.list (row.map f)) (.int (i : Nat)) = some (f row[i]) := by
  simp only [ixD, L2.atI, L2.ixN, List.length_map]
  rw [if_pos (by omega), if_pos (by omega)]
  simp [h]
theorem sIx_mid {n : Nat} {d : Nat} {i : Nat} (h : i ≤ n) : HT.sIx n d (some (i : Int)) = i := by
  unfold HT.sIx
  simp
  rw [if_neg (by omega)]
  omega
theorem uniq_one {xs : List Int} (h : xs ≠ []) : (Mset.uniq xs).length = 1 ↔ ∃ a, ∀ x ∈ xs, x = a := by
  constructor
  · intro e
    obtain ⟨a, ha⟩ := List.length_eq_one_iff.mp e
    exact ⟨a, fun x hx => by have := Mset.mem_uniq.mpr hx; rw [ha] at this; simpa using this⟩
  · rintro ⟨a, ha⟩
    have hn := Mset.uniq_nodup xs
    have hm : ∀ x ∈ Mset.uniq xs, x = a := fun x hx => ha x (Mset.mem_uniq.mp hx)
    cases e : Mset.uniq xs with
    | nil =>
      obtain ⟨y, hy⟩ := List.exists_mem_of_ne_nil xs h
      have := Mset.mem_uniq.mpr hy
      rw [e] at this
      simp at this
    | cons b t =>
      cases t with
      | nil => rfl
      | cons c t =>
        rw [e] at hn hm
        have h1 := hm b (by simp)
        have h2 := hm c (by simp)
        simp [h1, h2] at hn
theorem rng_get {n i : Nat} {x : D} (h : (rng 0 n)[i]? = some x) : i < n ∧ x = .int (i : Nat) := by
  unfold rng at h
  rw [List.getElem?_map] at h
  by_cases c : i < n
  · rw [List.getElem?_range c] at h
    simp at h
    exact ⟨c, h.symm⟩
  · rw [List.getElem?_eq_none (by simp; omega)] at h
    cases h
theorem rng_len (lo : Int) (n : Nat) : (rng lo n).length = n := by simp [rng]
theorem isNone_opt (o : Option Int) : isNone (optD o) = decide (o = none) := by cases o <;> rfl
theorem ixT' (row : List Int) {k : Int} (h0 : 0 ≤ k) (h : k.toNat < row.length) : ixD (.tuple (row.map .int)) (.int k) = some (.int (row.getD k.toNat 0)) := by
  have := ixT row k.toNat h
  rwa [Int.toNat_of_nonneg h0] at this
theorem getD_rng {row : List Int} (h : ∀ x ∈ row, 0 ≤ x ∧ x ≤ 3) (i : Nat) : 0 ≤ row.getD i 0 ∧ row.getD i 0 ≤ 3 := by
  rw [List.getD_eq_getElem?_getD]
  cases e : row[i]? with
  | none => simp
  | some x => exact h x (List.mem_of_getElem? e)
/-- neighbours -/
def pairs {α : Type} (g : Int → Int → α) : Int → List Int → List α
  | _, [] => []
  | a, x :: xs => g a x :: pairs g x xs
theorem pairs_len {α : Type} (g : Int → Int → α) : ∀ (xs : List Int) (a : Int), (pairs g a xs).length = xs.length
  | [], _ => rfl
  | x :: xs, a => by simp [pairs, pairs_len g xs]
theorem pairs_range {α : Type} (g : Int → Int → α) : ∀ (xs : List Int) (a : Int), pairs g a xs = (List.range xs.length).map fun i => g ((a :: xs).getD i 0) ((a :: xs).getD (i + 1) 0)
  | [], _ => rfl
  | x :: xs, a => by
    rw [pairs, pairs_range g xs x, List.length_cons, List.range_succ_eq_map, List.map_cons, List.map_map]
    rfl
theorem zip_lc {ρ : Rho} {b : D → Rho → Option Rho} {f : Rho → R D} (g : Int → Int → D) (β : Int → Int → Rho) (hb : ∀ x y : Int, b (.tuple [.int x, .int y]) ρ = some (β x y)) : ∀ (xs : List Int) (a : Int), (∀ x y, x ∈ a :: xs → y ∈ xs → f (β x y) = .ok (g x y)) → lcL b yes f ρ (zipD ((a :: xs).map .int) (xs.map .int)) = some (pairs g a xs)
  | [], a, _ => rfl
  | x :: xs, a, h => by
    have ih := zip_lc g β hb xs x fun u v hu hv => h u v (by simp at hu ⊢; rcases hu with rfl | hu <;> simp [*]) (by simp [hv])
    have e : zipD ((a :: x :: xs).map PyData.int) ((x :: xs).map PyData.int) = .tuple [.int a, .int x] :: zipD ((x :: xs).map PyData.int) (xs.map PyData.int) := rfl
    rw [e, lcL, hb]
    simp only [show ∀ ρ, yes ρ = R.ok true from fun _ => rfl, h a x (by simp) (by simp)]
    rw [ih]
    rfl
theorem enum_ints (row : List Int) : enumD (row.map .int) = (List.range row.length).map fun (i : Nat) => PyData.tuple [.int (i : Nat), .int (row.getD i 0)] := by
  unfold enumD
  refine List.ext_getElem (by simp) fun i h1 h2 => ?_
  simp at h1
  simp [List.getD_eq_getElem?_getD, h1]
theorem none_in (l : List (Option Int)) : inD .none (.list (l.map optD)) = some (decide (none ∈ l)) := by
  simp only [inD]
  rw [shaped_none, shaped_leafs (by simp [leaf_opt]), if_pos (by rfl), List.any_map]
  congr 1
  rw [Bool.eq_iff_iff, List.any_eq_true, decide_eq_true_iff]
  constructor
  · rintro ⟨x, hx, he⟩
    cases x with
    | none => exact hx
    | some i => simp [optD, PyData.eqv] at he
  · intro h
    exact ⟨none, h, by simp [optD, PyData.eqv]⟩
theorem ints_opts : ∀ l : List (Option Int), none ∉ l → intsOf (l.map optD) = some (l.map (·.getD 0))
  | [], _ => rfl
  | none :: l, h => absurd (by simp) h
  | some i :: l, h => by
    simp only [List.mem_cons, not_or] at h
    simp [optD, intsOf, ints_opts l h.2]
theorem eqD_opt (a b : Option Int) : eqD (optD a) (optD b) = some (decide (a = b)) := by
  unfold eqD
  rw [shaped_opt, shaped_opt, if_pos (by rfl)]
  cases a <;> cases b <;> simp [optD, PyData.eqv]
  congr 1
theorem neD_bool (a b : Bool) : neD (.bool a) (.bool b) = some (a != b) := by
  unfold neD
  rw [shaped_bool, shaped_bool, if_pos (by rfl)]
  cases a <;> cases b <;> rfl
end G
namespace G
open M PySem
theorem gray_ix (i : Int) : ∃ g : Int, (0 ≤ g ∧ g ≤ 3) ∧ ixD (.list [.int 0, .int 1, .int 3, .int 2]) (.int (i % 4)) = some (.int g) := by
  have h : i % 4 = 0 ∨ i % 4 = 1 ∨ i % 4 = 2 ∨ i % 4 = 3 := by omega
  rcases h with h | h | h | h <;> rw [h]
  · exact ⟨0, by decide, rfl⟩
  · exact ⟨1, by decide, rfl⟩
  · exact ⟨3, by decide, rfl⟩
  · exact ⟨2, by decide, rfl⟩
theorem step_ix {i : Int} (h0 : 0 ≤ i) (h1 : i < 8) : ∃ g : Int, ixD (.list [.int 0, .int 1, .int 1, .int (-1), .int (-1), .int 0, .int 2, .int 1]) (.int i) = some (.int g) := by
  have h : i = 0 ∨ i = 1 ∨ i = 2 ∨ i = 3 ∨ i = 4 ∨ i = 5 ∨ i = 6 ∨ i = 7 := by omega
  rcases h with h | h | h | h | h | h | h | h <;> rw [h] <;> exact ⟨_, rfl⟩
theorem rough_loop {P : Int → Int → Int} (hP : Dr P) {a : Int} {S2 : Sl} (ha : 0 ≤ a) : ∀ (ks : List Int) (acc : List D) (pl : Int) (s3 : Sl), (∀ k ∈ ks, 0 ≤ k) → acc.length + ks.length < 1000000 →
    ∃ (s3' s5' : Sl) (row : List Int), row.length = ks.length ∧ (∀ x ∈ row, 0 ≤ x ∧ x ≤ 3) ∧ forL (bName 3) (lb1__law_rough P) (ks.map .int) [.d SCR, .d (.int a), S2, s3, .o acc, .d (.int pl)] = .nx [.d SCR, .d (.int a), S2, s3', .o (acc ++ row.map .int), s5']
  | [], acc, pl, s3, _, _ => ⟨s3, .d (.int pl), [], rfl, by simp, by simp [forL]⟩
  | k :: ks, acc, pl, s3, hk, hl => by
    simp only [List.length_cons] at hl
    obtain ⟨g, hg, eg⟩ := gray_ix pl
    have hk0 := hk k (by simp)
    have q0 := hP.lo (a + 2 + k) 8 (by decide)
    have q1 := hP.hi (a + 2 + k) 8 (by decide)
    obtain ⟨t, et⟩ := step_ix q0 q1
    obtain ⟨s3', s5', row, h1, h2, h3⟩ := rough_loop hP (S2 := S2) ha ks (acc ++ [.int g]) (pl + t) (.d (.int k)) (fun x hx => hk x (by simp [hx])) (by simp; omega)
    refine ⟨s3', s5', g :: row, by simp [h1], fun x hx => ?_, ?_⟩
    · rcases List.mem_cons.mp hx with rfl | hx
      · exact hg
      · exact h2 x hx
    · have c1 : acc.length < 1000000 := by omega
      have c2 : 0 ≤ a + 2 + k := by omega
      rw [List.map_cons, forL_nx (ρ2 := [.d SCR, .d (.int a), S2, .d (.int k), .o (acc ++ [.int g]), .d (.int (pl + t))]) rfl (by
        simp [lb1__law_rough, fnM0, fnM, sSeq, sIf, sRet, sRetN, sSet, sNil, sDrop, sPar, sPar3, sPar4, sUnp, sApp, sExt, sPut, sFrz, own, frz, nD, nO, nLst, e1, e2, nm, bnm, cst, bv, chE, andT, orT, notT, andV, orV, notV, ifE, cons', tupE, lstE, asB, M.call, ncall, lcall, flatR, flatD, Out.r, Out.s, R.bind, R.of, R.out, pickF, bName, bTup, bNames, itE, items, sFor, lcD, sBad, yes, addD, modD, negD, eg, c1, c2, SCR, et]), h3]
      simp
theorem m_rough {P : Int → Int → Int} (hP : Dr P) {a m : Int} (ha : 0 ≤ a) (hm : 0 < m ∧ m ≤ 1000) : ∃ row : List Int, 1 ≤ row.length ∧ row.length ≤ m ∧ (∀ x ∈ row, 0 ≤ x ∧ x ≤ 3) ∧ m__law_rough P [SCR, .int a, .int m] = .rt (.tuple (row.map .int)) := by
  have h1 := hP.lo (a + 1) m hm.1
  have h2 := hP.hi (a + 1) m hm.1
  have c1 : 0 ≤ a ∧ (0 : Int) < 4 := ⟨ha, by decide⟩
  have c2 : 0 ≤ a + 1 ∧ 0 < m := ⟨by omega, hm.1⟩
  generalize hn : P (a + 1) m = n at h1 h2
  have c3 : -1000000000 ≤ 1 + n ∧ 1 + n ≤ 1000000000 := by omega
  obtain ⟨s3, s5, row, r1, r2, r3⟩ := rough_loop hP (S2 := .d (.int m)) ha ((List.range (1 + n).toNat).map fun (i : Nat) => 0 + (i : Int)) [] (P a 4) .no (fun k hk => by
    obtain ⟨i, _, rfl⟩ := List.mem_map.mp hk
    omega) (by simp; omega)
  simp only [List.length_map, List.length_range] at r1
  refine ⟨row, by omega, by omega, r2, fn_rt rfl ?_⟩
  rw [tl0__law_rough, seq_nx (ρ' := [.d SCR, .d (.int a), .d (.int m), .no, .o [], .d (.int (P a 4))]) (by simp [fnM0, fnM, sSeq, sIf, sRet, sRetN, sSet, sNil, sDrop, sPar, sPar3, sPar4, sUnp, sApp, sExt, sPut, sFrz, own, frz, nD, nO, nLst, e1, e2, nm, bnm, cst, bv, chE, andT, orT, notT, andV, orV, notV, ifE, cons', tupE, lstE, asB, M.call, ncall, lcall, flatR, flatD, Out.r, Out.s, R.bind, R.of, R.out, pickF, bName, bTup, bNames, itE, items, sFor, lcD, sBad, yes, SCR, c1]), tl1__law_rough]
  rw [← rng_map] at r3
  rw [seq_nx (ρ' := [.d SCR, .d (.int a), .d (.int m), s3, .o (row.map .int), s5]) (by
    simp only [sFor, rg1, M.call, cons', nm, bnm, cst, e2, addD, R.bind, R.of, pickF, SCR, List.getElem?_cons_zero, List.getElem?_cons_succ, Out.r, c2, c3, hn, and_self, if_true, R.out]
    exact r3), tl2__law_rough]
  simp [fnM0, fnM, sSeq, sIf, sRet, sRetN, sSet, sNil, sDrop, sPar, sPar3, sPar4, sUnp, sApp, sExt, sPut, sFrz, own, frz, nD, nO, nLst, e1, e2, nm, bnm, cst, bv, chE, andT, orT, notT, andV, orV, notV, ifE, cons', tupE, lstE, asB, M.call, ncall, lcall, flatR, flatD, Out.r, Out.s, R.bind, R.of, R.out, pickF, bName, bTup, bNames, itE, items, sFor, lcD, sBad, yes, tupleD]
theorem m_sample {x : Int} (h : 0 ≤ x ∧ x ≤ 3) : m_is_sample [.int x] = .rt (.bool true) := by
  simp [m_is_sample, tl0_is_sample, fnM0, fnM, sSeq, sIf, sRet, sRetN, sSet, sNil, sDrop, sPar, sPar3, sPar4, sUnp, sApp, sExt, sPut, sFrz, own, frz, nD, nO, nLst, e1, e2, nm, bnm, cst, bv, chE, andT, orT, notT, andV, orV, notV, ifE, cons', tupE, lstE, asB, M.call, ncall, lcall, flatR, flatD, Out.r, Out.s, R.bind, R.of, R.out, pickF, bName, bTup, bNames, itE, items, sFor, lcD, sBad, yes, m_whole, h]
theorem m_isrow {row : List Int} (h1 : 1 ≤ row.length) (h2 : row.length ≤ 40) (h3 : ∀ x ∈ row, 0 ≤ x ∧ x ≤ 3) : m_is_row [.tuple (row.map .int)] = .rt (.bool true) := by
  refine fn_rt rfl ?_
  have key : lcL (bName 1) yes ce1_is_row [.d (.tuple (row.map .int)), .no] (row.map .int) = some ((row.map fun _ => true).map .bool) := by
    rw [lcL_all (d := PyData.int) (β := fun x => [.d (.tuple (row.map .int)), .d (.int x)]) (F := fun _ => .bool true)]
    · simp
    · intro x hx
      exact ⟨rfl, by simp [ce1_is_row, fnM0, fnM, sSeq, sIf, sRet, sRetN, sSet, sNil, sDrop, sPar, sPar3, sPar4, sUnp, sApp, sExt, sPut, sFrz, own, frz, nD, nO, nLst, e1, e2, nm, bnm, cst, bv, chE, andT, orT, notT, andV, orV, notV, ifE, cons', tupE, lstE, asB, M.call, ncall, lcall, flatR, flatD, Out.r, Out.s, R.bind, R.of, R.out, pickF, bName, bTup, bNames, itE, items, sFor, lcD, sBad, yes, m_sample (h3 x hx)]⟩
  have c1 : (1 : Int) ≤ row.length := by omega
  have c2 : (row.length : Int) ≤ 40 := by omega
  have c3 : (row.map PyData.int).length ≤ 1000000 := by simp; omega
  have hb := bools_map (row.map fun _ => true)
  have hall : (row.map fun _ => true).all id = true := by simp
  generalize hB : (row.map fun _ => true) = bs at key hb hall
  have c4 : row.length ≤ 1000000 := by omega
  simp only [tl0_is_row, sRet, andV, bv, chE, e1, bnm, cst, cons', lcD, lcE, itE, items, nm, isiE, isi, isDict, lenD, leD, R.bind, R.of, R.out, List.getElem?_cons_zero, List.getElem?_cons_succ, List.length_map, decide_eq_true c1, decide_eq_true c2, if_true, c3, wip, List.set, key, allD, hb, Bool.false_eq_true, if_false]
  simp [c1, c2, c4, key, hb, hall, R.bind, R.of, wip, List.set]
theorem m_lookrow {row : List Int} (h1 : 1 ≤ row.length) (h2 : row.length ≤ 40) (h3 : ∀ x ∈ row, 0 ≤ x ∧ x ≤ 3) : m_look_row [.tuple (row.map .int)] = .rt .none := by
  simp [m_look_row, tl0_look_row, fnM0, fnM, sSeq, sIf, sRet, sRetN, sSet, sNil, sDrop, sPar, sPar3, sPar4, sUnp, sApp, sExt, sPut, sFrz, own, frz, nD, nO, nLst, e1, e2, nm, bnm, cst, bv, chE, andT, orT, notT, andV, orV, notV, ifE, cons', tupE, lstE, asB, M.call, ncall, lcall, flatR, flatD, Out.r, Out.s, R.bind, R.of, R.out, pickF, bName, bTup, bNames, itE, items, sFor, lcD, sBad, yes, m_isrow h1 h2 h3]
end G
namespace G
open M PySem
def gi (x : Int) : Int := if x = 0 then 0 else if x = 1 then 1 else if x = 3 then 2 else 3
def fo (x y : Int) : Int := (gi y - gi x) % 4
def st (x y : Int) : Option Int := if fo x y = 0 then some 0 else if fo x y = 1 then some 1 else if fo x y = 2 then none else some (-1)
theorem samp {x : Int} (h : 0 ≤ x ∧ x ≤ 3) : x = 0 ∨ x = 1 ∨ x = 2 ∨ x = 3 := by omega
theorem m_far {x y : Int} (hx : 0 ≤ x ∧ x ≤ 3) (hy : 0 ≤ y ∧ y ≤ 3) : m_far_on [.int x, .int y] = .rt (.int (fo x y)) := by
  rcases samp hx with rfl | rfl | rfl | rfl <;> rcases samp hy with rfl | rfl | rfl | rfl <;> rfl
theorem m_step {x y : Int} (hx : 0 ≤ x ∧ x ≤ 3) (hy : 0 ≤ y ∧ y ≤ 3) : m_step_between [.int x, .int y] = .rt (optD (st x y)) := by
  rcases samp hx with rfl | rfl | rfl | rfl <;> rcases samp hy with rfl | rfl | rfl | rfl <;> rfl
theorem fo_rng (x y : Int) : 0 ≤ fo x y ∧ fo x y ≤ 3 := by unfold fo; omega
theorem st_none (x y : Int) : st x y = none ↔ fo x y = 2 := by
  have := fo_rng x y
  unfold st
  by_cases h0 : fo x y = 0
  · simp [h0]
  · by_cases h1 : fo x y = 1
    · simp [h1]
    · by_cases h2 : fo x y = 2 <;> simp [h0, h1, h2]
theorem st_one (x y : Int) : (st x y = some 1 ∨ st x y = some (-1)) ↔ (fo x y = 1 ∨ fo x y = 3) := by
  have := fo_rng x y
  unfold st
  by_cases h0 : fo x y = 0
  · simp [h0]
  · by_cases h1 : fo x y = 1
    · simp [h1]
    · by_cases h2 : fo x y = 2
      · simp [h2]
      · have : fo x y = 3 := by omega
        simp [this]
theorem st_same (x : Int) : st x x = some 0 := by simp [st, fo]
end G
namespace G
open M PySem
/-- where two steps are made at once -/
def farL (row : List Int) : List Int := ((List.range (row.length - 1)).map fun (i : Nat) => 1 + (i : Int)).filter fun k => decide (fo (row.getD (k - 1).toNat 0) (row.getD k.toNat 0) = 2)
theorem rng1 (n : Nat) : rng 1 ((n : Int) - 1).toNat = ((List.range (n - 1)).map fun (i : Nat) => 1 + (i : Int)).map .int := by
  rw [rng_map, show ((n : Int) - 1).toNat = n - 1 by omega]
theorem m_jumps' {row : List Int} (h1 : 1 ≤ row.length) (h2 : row.length ≤ 40) (h3 : ∀ x ∈ row, 0 ≤ x ∧ x ≤ 3) : m_jumps [.tuple (row.map .int)] = .rf ((farL row).map .int) := by
  refine fn_rf rfl ?_
  rw [tl0_jumps, seq_nx (ρ' := [.d (.tuple (row.map .int)), .no]) (by simp [fnM0, fnM, sSeq, sIf, sRet, sRetN, sSet, sNil, sDrop, sPar, sPar3, sPar4, sUnp, sApp, sExt, sPut, sFrz, own, frz, nD, nO, nLst, e1, e2, nm, bnm, cst, bv, chE, andT, orT, notT, andV, orV, notV, ifE, cons', tupE, lstE, asB, M.call, ncall, lcall, flatR, flatD, Out.r, Out.s, R.bind, R.of, R.out, pickF, bName, bTup, bNames, itE, items, sFor, lcD, sBad, yes, m_lookrow h1 h2 h3]), tl1_jumps]
  have key : lcL (bName 1) ct1_jumps (nm 1) [.d (.tuple (row.map .int)), .no] (rng 1 ((row.length : Int) - 1).toNat) = some ((farL row).map .int) := by
    rw [rng1, lcL_map (d := PyData.int) (β := fun k => [.d (.tuple (row.map .int)), .d (.int k)]) (T := fun k => decide (fo (row.getD (k - 1).toNat 0) (row.getD k.toNat 0) = 2)) (F := fun k => .int k)]
    · rfl
    · intro k hk
      obtain ⟨i, hi, rfl⟩ := List.mem_map.mp hk
      have hi' := List.mem_range.mp hi
      refine ⟨rfl, ?_, fun _ => rfl⟩
      have i1 := ixT' row (k := 1 + (i : Int)) (by omega) (by omega)
      have i2 := ixT' row (k := 1 + (i : Int) - 1) (by omega) (by omega)
      have ms := m_step (getD_rng h3 (1 + (i : Int) - 1).toNat) (getD_rng h3 (1 + (i : Int)).toNat)
      simp only [ct1_jumps, e2, M.call, cons', bnm, cst, R.bind, R.of, subD, List.getElem?_cons_zero, List.getElem?_cons_succ, i1, i2, ms, Out.r, isD, isNone_opt, st_none]
  have c1 : (-1000000000 : Int) ≤ 1 ∧ (1 : Int) ≤ 1000000000 ∧ -1000000000 ≤ (row.length : Int) ∧ (row.length : Int) ≤ 1000000000 := by omega
  have c2 : (rng 1 ((row.length : Int) - 1).toNat).length ≤ 1000000 := by rw [rng_len]; omega
  simp only [sRetN, nO, lcE, rg2, e1, cons', bnm, cst, R.bind, R.of, lenD, List.getElem?_cons_zero, List.getElem?_cons_succ, List.length_map, c1, and_self, if_true, c2, wip, List.set, key, R.out]
end G
namespace G
open M PySem
/-- there and back -/
def bnc (row : List Int) (k : Int) : Bool := decide (row.getD (k - 1).toNat 0 = row.getD (k + 1).toNat 0) && (decide (fo (row.getD (k - 1).toNat 0) (row.getD k.toNat 0) = 1) || decide (fo (row.getD (k - 1).toNat 0) (row.getD k.toNat 0) = 3))
def bncL (row : List Int) : List Int := ((List.range (row.length - 2)).map fun (i : Nat) => 1 + (i : Int)).filter (bnc row)
theorem beq_int (a b : Int) : (a == b) = decide (b = a) := by
  rw [Bool.eq_iff_iff, beq_iff_eq, decide_eq_true_iff]
  exact ⟨Eq.symm, Eq.symm⟩
theorem in_two (i a b : Int) : inD (.int i) (.tuple [.int a, .int b]) = some (decide (i = a) || decide (i = b)) := by
  have h : inD (.int i) (.tuple [.int a, .int b]) = some ((a == i) || ((b == i) || false)) := by
    simp only [inD]
    rw [if_pos (by rfl)]
    simp only [List.any_cons, List.any_nil, PyData.eqv]
  rw [h, beq_int, beq_int, Bool.or_false]
theorem in_steps (o : Option Int) : inD (optD o) (.tuple [.int 1, .int (-1)]) = some (decide (o = some 1) || decide (o = some (-1))) := by
  cases o with
  | none => rfl
  | some i =>
    show inD (.int i) (.tuple [.int 1, .int (-1)]) = _
    rw [in_two]
    simp only [Option.some.injEq]
theorem in_odd (i : Int) : inD (.int i) (.tuple [.int 1, .int 3]) = some (decide (i = 1) || decide (i = 3)) := in_two i 1 3
theorem app_loop {b : D → Rho → Option Rho} {body : Rho → Out} {T : Int → Bool} (β : Sl → List D → Rho) : ∀ (ks : List Int) (acc : List D) (s : Sl), acc.length + ks.length < 1000000 → (∀ k ∈ ks, ∀ (s : Sl) (acc : List D), acc.length < 1000000 → b (.int k) (β s acc) = some (β (.d (.int k)) acc) ∧ body (β (.d (.int k)) acc) = .nx (β (.d (.int k)) (if T k = true then acc ++ [.int k] else acc))) →
    ∃ s', forL b body (ks.map .int) (β s acc) = .nx (β s' (acc ++ (ks.filter T).map .int))
  | [], acc, s, _, _ => ⟨s, by simp [forL]⟩
  | k :: ks, acc, s, hl, h => by
    simp only [List.length_cons] at hl
    obtain ⟨h1, h2⟩ := h k (by simp) s acc (by omega)
    obtain ⟨s', e⟩ := app_loop β ks (if T k = true then acc ++ [.int k] else acc) (.d (.int k)) (by split <;> (try simp) <;> omega) fun x hx => h x (by simp [hx])
    refine ⟨s', ?_⟩
    rw [List.map_cons, forL_nx h1 h2, e, List.filter_cons]
    split <;> simp
theorem rng2 (n : Nat) : rng 1 ((n : Int) - 1 - 1).toNat = ((List.range (n - 2)).map fun (i : Nat) => 1 + (i : Int)).map .int := by
  rw [rng_map, show ((n : Int) - 1 - 1).toNat = n - 2 by omega]
theorem m_bounces' {row : List Int} (h1 : 1 ≤ row.length) (h2 : row.length ≤ 40) (h3 : ∀ x ∈ row, 0 ≤ x ∧ x ≤ 3) : m_bounces [.tuple (row.map .int)] = .rf ((bncL row).map .int) := by
  refine fn_rf rfl ?_
  rw [tl0_bounces, seq_nx (ρ' := [.d (.tuple (row.map .int)), .no, .no]) (by simp [fnM0, fnM, sSeq, sIf, sRet, sRetN, sSet, sNil, sDrop, sPar, sPar3, sPar4, sUnp, sApp, sExt, sPut, sFrz, own, frz, nD, nO, nLst, e1, e2, nm, bnm, cst, bv, chE, andT, orT, notT, andV, orV, notV, ifE, cons', tupE, lstE, asB, M.call, ncall, lcall, flatR, flatD, Out.r, Out.s, R.bind, R.of, R.out, pickF, bName, bTup, bNames, itE, items, sFor, lcD, sBad, yes, m_lookrow h1 h2 h3]), tl1_bounces, seq_nx (ρ' := [.d (.tuple (row.map .int)), .o [], .no]) (by simp [fnM0, fnM, sSeq, sIf, sRet, sRetN, sSet, sNil, sDrop, sPar, sPar3, sPar4, sUnp, sApp, sExt, sPut, sFrz, own, frz, nD, nO, nLst, e1, e2, nm, bnm, cst, bv, chE, andT, orT, notT, andV, orV, notV, ifE, cons', tupE, lstE, asB, M.call, ncall, lcall, flatR, flatD, Out.r, Out.s, R.bind, R.of, R.out, pickF, bName, bTup, bNames, itE, items, sFor, lcD, sBad, yes]), tl2_bounces]
  obtain ⟨s', e⟩ := app_loop (b := bName 2) (body := lb1_bounces) (T := bnc row) (fun s acc => [.d (.tuple (row.map .int)), .o acc, s]) ((List.range (row.length - 2)).map fun (i : Nat) => 1 + (i : Int)) [] .no (by simp; omega) (fun k hk s acc ha => by
    obtain ⟨i, hi, rfl⟩ := List.mem_map.mp hk
    have hi' := List.mem_range.mp hi
    refine ⟨rfl, ?_⟩
    have i1 := ixT' row (k := 1 + (i : Int)) (by omega) (by omega)
    have i2 := ixT' row (k := 1 + (i : Int) - 1) (by omega) (by omega)
    have i3 := ixT' row (k := 1 + (i : Int) + 1) (by omega) (by omega)
    have ms := m_step (getD_rng h3 (1 + (i : Int) - 1).toNat) (getD_rng h3 (1 + (i : Int)).toNat)
    have ho := st_one (row.getD (1 + (i : Int) - 1).toNat 0) (row.getD (1 + (i : Int)).toNat 0)
    unfold bnc
    generalize row.getD (1 + (i : Int) - 1).toNat 0 = u at *
    generalize row.getD (1 + (i : Int)).toNat 0 = v at *
    generalize row.getD (1 + (i : Int) + 1).toNat 0 = z at *
    have e : (decide (st u v = some 1) || decide (st u v = some (-1))) = (decide (fo u v = 1) || decide (fo u v = 3)) := by
      rw [Bool.eq_iff_iff]
      simpa using ho
    by_cases c : u = z
    · cases hf : (decide (fo u v = 1) || decide (fo u v = 3)) <;> simp only [hf] at e <;> simp [lb1_bounces, fnM0, fnM, sSeq, sIf, sRet, sRetN, sSet, sNil, sDrop, sPar, sPar3, sPar4, sUnp, sApp, sExt, sPut, sFrz, own, frz, nD, nO, nLst, e1, e2, nm, bnm, cst, bv, chE, andT, orT, notT, andV, orV, notV, ifE, cons', tupE, lstE, asB, M.call, ncall, lcall, flatR, flatD, Out.r, Out.s, R.bind, R.of, R.out, pickF, bName, bTup, bNames, itE, items, sFor, lcD, sBad, yes, negD, subD, addD, i1, i2, i3, eqD_int, c, ha] <;> simp [← c, ms, in_steps, e, hf, ha]
    · simp [lb1_bounces, fnM0, fnM, sSeq, sIf, sRet, sRetN, sSet, sNil, sDrop, sPar, sPar3, sPar4, sUnp, sApp, sExt, sPut, sFrz, own, frz, nD, nO, nLst, e1, e2, nm, bnm, cst, bv, chE, andT, orT, notT, andV, orV, notV, ifE, cons', tupE, lstE, asB, M.call, ncall, lcall, flatR, flatD, Out.r, Out.s, R.bind, R.of, R.out, pickF, bName, bTup, bNames, itE, items, sFor, lcD, sBad, yes, negD, subD, addD, i1, i2, i3, eqD_int, c, ha])
  rw [← rng2] at e
  have c1 : (-1000000000 : Int) ≤ 1 ∧ (1 : Int) ≤ 1000000000 ∧ -1000000000 ≤ (row.length : Int) - 1 ∧ (row.length : Int) - 1 ≤ 1000000000 := by omega
  rw [seq_nx (ρ' := [.d (.tuple (row.map .int)), .o ((bncL row).map .int), s']) (by
    simp only [sFor, rg2, e1, e2, cons', bnm, cst, R.bind, R.of, lenD, subD, List.getElem?_cons_zero, List.getElem?_cons_succ, List.length_map, c1, and_self, if_true, R.out]
    exact e), tl3_bounces]
  rfl
end G
namespace G
open M PySem
/-! ### chains of samples, the best one -/
def chx (ok : Nat → Nat → Prop) : Nat → List Nat → Prop
  | _, [] => True
  | a, x :: l => (a < x ∧ ok a x) ∧ chx ok x l
def laN : Nat → List Nat → Nat
  | a, [] => a
  | _, x :: l => laN x l
theorem laN_snoc : ∀ (l : List Nat) (a x : Nat), laN a (l ++ [x]) = x
  | [], _, _ => rfl
  | y :: l, a, x => laN_snoc l y x
theorem chx_snoc {ok : Nat → Nat → Prop} : ∀ (l : List Nat) (a x : Nat), chx ok a (l ++ [x]) ↔ chx ok a l ∧ (laN a l < x ∧ ok (laN a l) x)
  | [], a, x => by simp [chx, laN]
  | y :: l, a, x => by
    rw [List.cons_append, chx, chx, chx_snoc l y x, laN]
    exact ⟨fun ⟨p, q, r⟩ => ⟨⟨p, q⟩, r⟩, fun ⟨⟨p, q⟩, r⟩ => ⟨p, q, r⟩⟩
theorem chx_le {ok : Nat → Nat → Prop} : ∀ (l : List Nat) (a : Nat), chx ok a l → ∀ x ∈ a :: l, x ≤ laN a l
  | [], a, _, x, hx => by simp at hx; simp [hx, laN]
  | y :: l, a, h, x, hx => by
    rcases List.mem_cons.mp hx with rfl | hx
    · have := chx_le l y h.2 y (by simp)
      have := h.1.1
      show x ≤ laN y l
      omega
    · exact chx_le l y h.2 x hx
def SC (ok : Nat → Nat → Prop) (k : Nat) (L : List Nat) : Prop := ∃ l, L = 0 :: l ∧ chx ok 0 l ∧ laN 0 l = k
def iz (L : List Nat) : List Int := L.map fun (j : Nat) => (j : Int)
def kz (L : List Nat) : Int × List Int := (0 - (L.length : Int), iz L)
theorem iz_inj {L M : List Nat} (h : iz L = iz M) : L = M := by
  unfold iz at h
  exact List.map_inj_right (fun a b h => by omega) |>.mp h
theorem kz_inj {L M : List Nat} (h : kz L = kz M) : L = M := iz_inj (congrArg Prod.snd h)
def bet (M L : List Nat) : Bool := ltZ (kz M) (kz L)
theorem lx_app (k : Int) : ∀ (xs ys : List Int), xs.length = ys.length → lx (xs ++ [k]) (ys ++ [k]) = lx xs ys
  | [], [], _ => by simp [lx]
  | [], _ :: _, h => by simp at h
  | _ :: _, [], h => by simp at h
  | x :: xs, y :: ys, h => by
    rw [List.cons_append, List.cons_append, lx, lx, lx_app k xs ys (by simpa using h)]
theorem bet_snoc (M L : List Nat) (k : Nat) : bet (M ++ [k]) (L ++ [k]) = bet M L := by
  unfold bet ltZ kz iz
  simp only [List.length_append, List.length_cons, List.length_nil, List.map_append, List.map_cons, List.map_nil]
  by_cases c : M.length = L.length
  · rw [if_pos (by omega), if_pos (by omega), lx_app _ _ _ (by simpa using c)]
  · rw [if_neg (by omega), if_neg (by omega)]
    rw [Bool.eq_iff_iff, decide_eq_true_iff, decide_eq_true_iff]
    omega
structure IsMin (P : List Nat → Prop) (L : List Nat) : Prop where
  inn : P L
  low : ∀ M, P M → bet M L = false
theorem IsMin.uniq {P : List Nat → Prop} {L M : List Nat} (a : IsMin P L) (b : IsMin P M) : L = M := kz_inj (ltZ_tri (b.low L a.inn) (a.low M b.inn))
theorem IsMin.iff {P Q : List Nat → Prop} {L : List Nat} (h : ∀ M, P M ↔ Q M) (a : IsMin P L) : IsMin Q L := ⟨(h L).mp a.inn, fun M hM => a.low M ((h M).mpr hM)⟩
def Bst (P : List Nat → Prop) : Option (List Nat) → Prop
  | none => ∀ L, ¬ P L
  | some L => IsMin P L
theorem Bst.iff {P Q : List Nat → Prop} {o : Option (List Nat)} (h : ∀ M, P M ↔ Q M) (a : Bst P o) : Bst Q o := by
  cases o with
  | none => exact fun L hL => a L ((h L).mpr hL)
  | some L => exact IsMin.iff h a
def pk2 : Option (List Nat) → List Nat → Option (List Nat)
  | none, c => some c
  | some L, c => if bet c L then some c else some L
theorem bet_trans {a b c : List Nat} (h1 : bet a b = true) (h2 : bet b c = true) : bet a c = true := ltZ_trans h1 h2
theorem Bst.comb {P Q : List Nat → Prop} {o : Option (List Nat)} {c : List Nat} (a : Bst P o) (b : IsMin Q c) : Bst (fun L => P L ∨ Q L) (pk2 o c) := by
  cases o with
  | none => exact ⟨.inr b.inn, fun M hM => by
      rcases hM with h | h
      · exact absurd h (a M)
      · exact b.low M h⟩
  | some L =>
    rw [pk2]
    by_cases e : bet c L = true
    · rw [if_pos e]
      refine ⟨.inr b.inn, fun M hM => ?_⟩
      rcases hM with h | h
      · cases e2 : bet M c with
        | false => rfl
        | true =>
          have := bet_trans e2 e
          rw [a.low M h] at this
          cases this
      · exact b.low M h
    · rw [if_neg e]
      refine ⟨.inl a.inn, fun M hM => ?_⟩
      rcases hM with h | h
      · exact a.low M h
      · cases e2 : bet M L with
        | false => rfl
        | true =>
          cases e3 : bet L c with
          | true =>
            have := bet_trans e2 e3
            rw [b.low M h] at this
            cases this
          | false =>
            have : L = c := kz_inj (ltZ_tri e3 (by simpa [bet] using e))
            subst this
            rw [b.low M h] at e2
            cases e2
def SA (ok : Nat → Nat → Prop) (k a : Nat) (L : List Nat) : Prop := ∃ a', a' < a ∧ ∃ M, SC ok a' M ∧ ok a' k ∧ L = M ++ [k]
theorem SA_succ {ok : Nat → Nat → Prop} {k a : Nat} (L : List Nat) : (SA ok k a L ∨ (ok a k ∧ ∃ M, SC ok a M ∧ L = M ++ [k])) ↔ SA ok k (a + 1) L := by
  constructor
  · rintro (⟨a', h1, M, h2⟩ | ⟨h0, M, h1, h2⟩)
    · exact ⟨a', by omega, M, h2⟩
    · exact ⟨a, by omega, M, h1, h0, h2⟩
  · rintro ⟨a', h1, M, h2, h3, h4⟩
    by_cases c : a' = a
    · subst c
      exact .inr ⟨h3, M, h2, h4⟩
    · exact .inl ⟨a', by omega, M, h2, h3, h4⟩
theorem SA_all {ok : Nat → Nat → Prop} {k : Nat} (hk : 0 < k) (L : List Nat) : SA ok k k L ↔ SC ok k L := by
  constructor
  · rintro ⟨a', h1, M, ⟨l, rfl, h2, h3⟩, h4, rfl⟩
    refine ⟨l ++ [k], rfl, (chx_snoc l 0 k).mpr ⟨h2, by rw [h3]; exact ⟨h1, h4⟩⟩, laN_snoc l 0 k⟩
  · rintro ⟨l, rfl, h1, h2⟩
    rcases List.eq_nil_or_concat l with rfl | ⟨l', x, rfl⟩
    · simp [laN] at h2; omega
    · rw [List.concat_eq_append] at h1 h2 ⊢
      rw [laN_snoc] at h2
      subst h2
      obtain ⟨h3, h4, h5⟩ := (chx_snoc l' 0 x).mp h1
      exact ⟨laN 0 l', h4, 0 :: l', ⟨l', rfl, h3, rfl⟩, h5, rfl⟩
theorem Bst.app {ok : Nat → Nat → Prop} {k a : Nat} {M : List Nat} (h : IsMin (SC ok a) M) (ho : ok a k) : IsMin (fun L => ok a k ∧ ∃ M, SC ok a M ∧ L = M ++ [k]) (M ++ [k]) :=
  ⟨⟨ho, M, h.inn, rfl⟩, fun N hN => by
    obtain ⟨_, M', h1, rfl⟩ := hN
    rw [bet_snoc]
    exact h.low M' h1⟩
theorem SC_zero {ok : Nat → Nat → Prop} : IsMin (SC ok 0) [0] := ⟨⟨[], rfl, trivial, rfl⟩, fun M hM => by
  obtain ⟨l, rfl, h1, h2⟩ := hM
  cases l with
  | nil => exact ltZ_irr _
  | cons x l =>
    have := chx_le l x h1.2 x (by simp)
    have h3 : laN x l = 0 := h2
    have := h1.1.1
    omega⟩
def bD : Option (List Nat) → D
  | none => .none
  | some L => .list ((iz L).map .int)
def Fr0 (ok : Nat → Nat → Prop) (n : Nat) (L : List Nat) : Prop := ∃ k, k < n ∧ SC ok k L
theorem isNone_bD (o : Option (List Nat)) : isNone (bD o) = decide (o = none) := by cases o <;> rfl
theorem nx2 (L : List Nat) (k : Nat) : addD (bD (some L)) (.list [.int (k : Nat)]) = if L.length + 1 ≤ 1000000 then some (bD (some (L ++ [k]))) else none := by
  simp only [bD, addD]
  have e : (iz (L ++ [k])).map PyData.int = (iz L).map .int ++ [.int (k : Nat)] := by simp [iz]
  rw [e]
  simp [iz]
def okr (row : List Int) (a b : Nat) : Prop := st (row.getD a 0) (row.getD b 0) ≠ none
instance (row : List Int) (a b : Nat) : Decidable (okr row a b) := by unfold okr; infer_instance
theorem SC_len {ok : Nat → Nat → Prop} {k : Nat} {L : List Nat} (h : SC ok k L) : L.length ≤ k + 1 := by
  obtain ⟨l, rfl, h1, h2⟩ := h
  have key : ∀ (l : List Nat) (a : Nat), chx ok a l → a + l.length ≤ laN a l := by
    intro l
    induction l with
    | nil => intro a _; simp [laN]
    | cons x l ih =>
      intro a h
      have := ih x h.2
      have := h.1.1
      show a + (l.length + 1) ≤ laN x l
      omega
  have := key l 0 h1
  simp
  omega
theorem lenD_bD (L : List Nat) : lenD [bD (some L)] = some (.int (L.length : Nat)) := by simp [lenD, bD, iz]
theorem pD_kz (L : List Nat) : PyData.tuple [.int (0 - (L.length : Int)), bD (some L)] = pD (kz L) := rfl
theorem best_ix (n : Nat) (b : Nat → Option (List Nat)) {k : Nat} (h : k < n) : ixD (.list ((List.range n).map fun k => bD (b k))) (.int (k : Nat)) = some (bD (b k)) := by
  rw [ixL (fun k => bD (b k)) (List.range n) k (by simpa using h)]
  simp
theorem best_set (n k : Nat) (b : Nat → Option (List Nat)) (o : Option (List Nat)) : ((List.range n).map fun k => bD (b k)).set k (bD o) = (List.range n).map fun t => bD (if t = k then o else b t) := by
  refine List.ext_getElem (by simp) fun i h1 h2 => ?_
  rw [List.getElem_set]
  simp
  by_cases c : k = i
  · rw [if_pos c, if_pos c.symm]
  · rw [if_neg c, if_neg (fun z => c z.symm)]
theorem fit_turn {row : List Int} (h3 : ∀ x ∈ row, 0 ≤ x ∧ x ≤ 3) (hl : row.length ≤ 40) {T : D} (hT : T = .tuple (row.map .int)) {k a : Nat} (hk : k < row.length) (ha : a < k) {b : Nat → Option (List Nat)} (hb : Bst (SC (okr row) a) (b a)) (hbk : Bst (SA (okr row) k a) (b k)) {s3 s5 : Sl} :
    ∃ (o : Option (List Nat)) (s5' : Sl), Bst (SA (okr row) k (a + 1)) o ∧ lb1_fitting [.d T, .o ((List.range row.length).map fun k => bD (b k)), .d (.int (k : Nat)), s3, .d (.int (a : Nat)), s5]
      = .nx [.d T, .o ((List.range row.length).map fun t => bD (if t = k then o else b t)), .d (.int (k : Nat)), s3, .d (.int (a : Nat)), s5'] := by
  have i1 := best_ix row.length b (show a < row.length by omega)
  have i2 := best_ix row.length b hk
  have r1 := ixT row a (by omega)
  have r2 := ixT row k hk
  rw [← hT] at r1 r2
  have ms := m_step (getD_rng h3 a) (getD_rng h3 k)
  have keep : ((List.range row.length).map fun k => bD (b k)) = (List.range row.length).map fun t => bD (if t = k then b k else b t) := by
    apply List.map_congr_left
    intro t _
    by_cases c : t = k
    · rw [if_pos c, c]
    · rw [if_neg c]
  have hns : isNone (optD (st (row.getD a 0) (row.getD k 0))) = decide (st (row.getD a 0) (row.getD k 0) = none) := isNone_opt _
  have hbs := fun o => best_set row.length k b o
  have hnn : L2.ixN ((List.range row.length).map fun k => bD (b k)).length (k : Int) = some k := by
    have hz : k < ((List.range row.length).map fun k => bD (b k)).length := by simpa using hk
    unfold L2.ixN
    rw [if_pos (by omega), if_pos (by omega)]
    rfl
  generalize hB : ((List.range row.length).map fun k => bD (b k)) = B at *
  cases hba : b a with
  | none =>
    rw [hba] at hb
    refine ⟨b k, s5, Bst.iff (fun L => ?_) hbk, ?_⟩
    · rw [← SA_succ]
      constructor
      · exact .inl
      · rintro (h | ⟨_, N, h, _⟩)
        · exact h
        · exact absurd h (hb N)
    · rw [hba] at i1
      rw [← keep]
      simp only [lb1_fitting, sIf, andT, e2, bnm, cst, R.bind, R.of, List.getElem?_cons_zero, List.getElem?_cons_succ, i1, isntD, isNone_bD, decide_true, Bool.not_true, Bool.false_eq_true, if_false, R.out]
      rfl
  | some Mc =>
    rw [hba] at hb i1
    by_cases ho : okr row a k
    · have hc := hbk.comb (Bst.app hb ho)
      have hc' := Bst.iff (SA_succ (ok := okr row) (k := k) (a := a)) hc
      have hst : decide (st (row.getD a 0) (row.getD k 0) = none) = false := decide_eq_false ho
      rw [hst] at hns
      have hln := SC_len hb.inn
      have had := nx2 Mc k
      rw [if_pos (by omega)] at had
      refine ⟨pk2 (b k) (Mc ++ [k]), .d (bD (some (Mc ++ [k]))), hc', ?_⟩
      have first : (andT (e2 isntD (e2 ixD (bnm 1) (bnm 4)) (cst .none)) (e2 isntD (M.call m_step_between (cons' (e2 ixD (bnm 0) (bnm 4)) (cons' (e2 ixD (bnm 0) (bnm 2)) (cst [])))) (cst .none))) [.d T, .o B, .d (.int (k : Nat)), s3, .d (.int (a : Nat)), s5] = .ok true := by
        simp only [andT, e2, M.call, cons', bnm, cst, R.bind, R.of, List.getElem?_cons_zero, List.getElem?_cons_succ, i1, isntD, isNone_bD, r1, r2, ms, Out.r, hns]
        rfl
      rw [lb1_fitting, sIf, first]
      show (sSeq (sSet 5 _) _) _ = _
      rw [seq_nx (ρ' := [.d T, .o B, .d (.int (k : Nat)), s3, .d (.int (a : Nat)), .d (bD (some (Mc ++ [k])))]) (by
        simp only [sSet, nD, e2, lstE, cons', nm, bnm, cst, R.bind, R.of, List.getElem?_cons_zero, List.getElem?_cons_succ, List.length_cons, List.length_nil, Nat.zero_add, Nat.reduceLeDiff, if_true, i1, had, R.out, List.set])]
      cases hbk' : b k with
      | none =>
        rw [hbk'] at i2
        rw [pk2]
        simp only [sIf, orT, e2, bnm, cst, R.bind, R.of, List.getElem?_cons_zero, List.getElem?_cons_succ, i2, isD, isNone_bD, decide_true, if_true, R.out, sPut, nm, hnn, List.set, hbs]
      | some L =>
        rw [hbk'] at i2
        have l1 := lenD_bD (Mc ++ [k])
        have l2 := lenD_bD L
        have p1 := prP_pD (kz (Mc ++ [k]))
        have p2 := prP_pD (kz L)
        rw [← pD_kz] at p1 p2
        have hlt : ltAD (.tuple [.int (0 - ((Mc ++ [k]).length : Int)), bD (some (Mc ++ [k]))]) (.tuple [.int (0 - (L.length : Int)), bD (some L)]) = some (bet (Mc ++ [k]) L) := by
          unfold ltAD
          rw [p1, p2]
          rfl
        have hor : (orT (e2 isD (e2 ixD (bnm 1) (bnm 2)) (cst .none)) (e2 ltAD (tupE (cons' (e2 subD (cst (.int 0)) (e1 lenD (cons' (bnm 5) (cst [])))) (cons' (nm 5) (cst [])))) (tupE (cons' (e2 subD (cst (.int 0)) (e1 lenD (cons' (e2 ixD (bnm 1) (bnm 2)) (cst [])))) (cons' (e2 ixD (bnm 1) (bnm 2)) (cst [])))))) [.d T, .o B, .d (.int (k : Nat)), s3, .d (.int (a : Nat)), .d (bD (some (Mc ++ [k])))] = .ok (bet (Mc ++ [k]) L) := by
          simp only [orT, e1, e2, tupE, cons', nm, bnm, cst, R.bind, R.of, List.getElem?_cons_zero, List.getElem?_cons_succ, i2, isD, isNone_bD, l1, l2, subD, List.length_cons, List.length_nil, Nat.zero_add, Nat.reduceAdd, Nat.reduceLeDiff, if_true, hlt]
          rfl
        rw [sIf, hor, pk2]
        cases hbt : bet (Mc ++ [k]) L with
        | true =>
          simp only [R.out, if_true, sPut, nm, bnm, List.getElem?_cons_zero, List.getElem?_cons_succ, hnn, List.set, hbs]
        | false =>
          rw [hbk'] at keep
          simp only [R.out, Bool.false_eq_true, if_false, sNil, ← keep]
    · refine ⟨b k, s5, Bst.iff (fun L => ?_) hbk, ?_⟩
      · rw [← SA_succ]
        constructor
        · exact .inl
        · rintro (h | ⟨h, _⟩)
          · exact h
          · exact absurd h ho
      · have hst : decide (st (row.getD a 0) (row.getD k 0) = none) = true := decide_eq_true (Decidable.not_not.mp ho)
        rw [hst] at hns
        rw [← keep]
        simp only [lb1_fitting, sIf, andT, e2, M.call, cons', bnm, cst, R.bind, R.of, List.getElem?_cons_zero, List.getElem?_cons_succ, i1, isntD, isNone_bD, r1, r2, ms, Out.r, hns, R.out]
        rfl
end G
namespace G
open M PySem
theorem rng_get1 {n i : Nat} {x : D} (h : (rng 1 n)[i]? = some x) : i < n ∧ x = .int ((i + 1 : Nat) : Int) := by
  unfold rng at h
  rw [List.getElem?_map] at h
  by_cases c : i < n
  · rw [List.getElem?_range c] at h
    simp at h
    exact ⟨c, by rw [← h]; congr 1; omega⟩
  · rw [List.getElem?_eq_none (by simp; omega)] at h
    cases h
theorem fit_in {row : List Int} (h3 : ∀ x ∈ row, 0 ≤ x ∧ x ≤ 3) (hl : row.length ≤ 40) {T : D} (hT : T = .tuple (row.map .int)) {k : Nat} (hk : k < row.length) {b : Nat → Option (List Nat)} (hb : ∀ j, j < k → Bst (SC (okr row) j) (b j)) (hbk : b k = none) {s3 s4 s5 : Sl} :
    ∃ (o : Option (List Nat)) (s4' s5' : Sl), Bst (SA (okr row) k k) o ∧ lb2_fitting [.d T, .o ((List.range row.length).map fun k => bD (b k)), .d (.int (k : Nat)), s3, s4, s5]
      = .nx [.d T, .o ((List.range row.length).map fun t => bD (if t = k then o else b t)), .d (.int (k : Nat)), s3, s4', s5'] := by
  have e0 : ((List.range row.length).map fun k => bD (b k)) = (List.range row.length).map fun t => bD (if t = k then none else b t) := by
    apply List.map_congr_left
    intro t _
    by_cases c : t = k
    · rw [if_pos c, c, hbk]
    · rw [if_neg c]
  obtain ⟨ρ', e, o, s4', s5', ho, hρ⟩ := forL_inv (b := bName 4) (body := lb1_fitting) (xs := rng 0 k) (fun a ρ => ∃ (o : Option (List Nat)) (s4 s5 : Sl), Bst (SA (okr row) k a) o ∧ ρ = [.d T, .o ((List.range row.length).map fun t => bD (if t = k then o else b t)), .d (.int (k : Nat)), s3, s4, s5]) (fun a x ρ hx ⟨o, s4, s5, ho, hρ⟩ => by
    obtain ⟨ha, rfl⟩ := rng_get hx
    subst hρ
    have hba : Bst (SC (okr row) a) ((fun t => if t = k then o else b t) a) := by
      show Bst _ (if a = k then o else b a)
      rw [if_neg (by omega)]
      exact hb a ha
    have hbk' : Bst (SA (okr row) k a) ((fun t => if t = k then o else b t) k) := by
      show Bst _ (if k = k then o else b k)
      rw [if_pos rfl]
      exact ho
    obtain ⟨o', s5', h1, h2⟩ := fit_turn h3 hl hT hk ha (b := fun t => if t = k then o else b t) hba hbk' (s3 := s3) (s5 := s5)
    refine ⟨_, _, rfl, h2, o', .d (.int (a : Nat)), s5', h1, ?_⟩
    congr 3
    apply List.map_congr_left
    intro t _
    by_cases c : t = k
    · simp [c]
    · simp [c]) [.d T, .o ((List.range row.length).map fun t => bD (if t = k then none else b t)), .d (.int (k : Nat)), s3, s4, s5] ⟨none, s4, s5, fun L ⟨a', h, _⟩ => absurd h (Nat.not_lt_zero a'), rfl⟩
  rw [rng_len] at ho
  subst hρ
  have c1 : -1000000000 ≤ (k : Int) ∧ (k : Int) ≤ 1000000000 := by omega
  refine ⟨o, s4', s5', ho, ?_⟩
  rw [e0, lb2_fitting]
  simp only [sFor, rg1, bnm, R.bind, R.of, List.getElem?_cons_zero, List.getElem?_cons_succ, c1, and_self, if_true, Int.toNat_natCast, R.out]
  exact e
theorem sort_head {zs : List (Int × List Int)} (h : zs ≠ []) : ∃ z0 zr, sortZ zs = z0 :: zr ∧ z0 ∈ zs ∧ ∀ z ∈ zs, leZ z0 z = true := by
  have hp := sortZ_perm zs
  have hs := sortZ_sorted zs
  cases e : sortZ zs with
  | nil =>
    rw [e] at hp
    exact absurd hp.symm.eq_nil h
  | cons z0 zr =>
    rw [e] at hp hs
    refine ⟨z0, zr, rfl, hp.mem_iff.mp (by simp), fun z hz => ?_⟩
    rcases List.mem_cons.mp (hp.mem_iff.mpr hz) with rfl | hm
    · unfold leZ
      rw [ltZ_irr]
      rfl
    · exact (List.pairwise_cons.mp hs).1 z hm
theorem Fr0.lt {ok : Nat → Nat → Prop} {n : Nat} {L : List Nat} (h : Fr0 ok n L) : ∀ k ∈ L, k < n := fun x hx => by
  obtain ⟨k, hk, l, rfl, h1, h2⟩ := h
  have := chx_le l 0 h1 x hx
  omega
theorem rep_none (n : Nat) : rep n [PyData.none] = (List.range n).map fun _ => bD none := by
  have : rep n [PyData.none] = List.replicate n .none := by
    induction n with
    | zero => rfl
    | succ n ih =>
      unfold rep at ih ⊢
      rw [List.replicate_succ, List.flatten_cons, ih, List.replicate_succ]
      rfl
  rw [this]
  exact List.ext_getElem (by simp) fun i h1 h2 => by simp [bD]
theorem m_fit {row : List Int} (h1 : 1 ≤ row.length) (hl : row.length ≤ 40) (h3 : ∀ x ∈ row, 0 ≤ x ∧ x ≤ 3) : ∃ F : List Nat, IsMin (Fr0 (okr row) row.length) F ∧ m_fitting [.tuple (row.map .int)] = .rt (.list ((iz F).map .int)) := by
  have hlr := m_lookrow h1 hl h3
  have hlen : lenD [.tuple (row.map .int)] = some (.int (row.length : Nat)) := by simp [lenD]
  generalize hT : PyData.tuple (row.map .int) = T at *
  have hrep : repN (.list [.none]) (.int (row.length : Nat)) = some ((List.range row.length).map fun _ => bD none) := by
    simp only [repN]
    rw [if_pos (by refine ⟨by omega, by omega, ?_⟩; simp; omega), Int.toNat_natCast, rep_none]
  have hput : ((List.range row.length).map fun _ => bD none).set 0 (.list [.int 0]) = (List.range row.length).map fun t => bD (if t = 0 then some [0] else none) := best_set row.length 0 (fun _ => none) (some [0])
  have hix0 : L2.ixN ((List.range row.length).map fun _ => bD none).length 0 = some 0 := by
    unfold L2.ixN
    rw [if_pos (by decide), if_pos (by simp; omega)]
    rfl
  obtain ⟨ρ', e, b, s2, s4, s5, hb, hbn, hρ⟩ := forL_inv (b := bName 2) (body := lb2_fitting) (xs := rng 1 (row.length - 1)) (fun i ρ => ∃ (b : Nat → Option (List Nat)) (s2 s4 s5 : Sl), (∀ j, j < i + 1 → Bst (SC (okr row) j) (b j)) ∧ (∀ j, i + 1 ≤ j → b j = none) ∧ ρ = [.d T, .o ((List.range row.length).map fun t => bD (b t)), s2, .no, s4, s5]) (fun i x ρ hx ⟨b, s2, s4, s5, hb, hbn, hρ⟩ => by
    obtain ⟨hi, rfl⟩ := rng_get1 hx
    subst hρ
    obtain ⟨o, s4', s5', ho, ho2⟩ := fit_in h3 hl hT.symm (k := i + 1) (by omega) hb (hbn (i + 1) (Nat.le_refl _)) (s3 := .no) (s4 := s4) (s5 := s5)
    refine ⟨_, _, rfl, ho2, fun t => if t = i + 1 then o else b t, _, _, _, fun j hj => ?_, fun j hj => ?_, rfl⟩
    · show Bst _ (if j = i + 1 then o else b j)
      by_cases c : j = i + 1
      · rw [if_pos c, c]
        exact Bst.iff (SA_all (by omega)) ho
      · rw [if_neg c]
        exact hb j (by omega)
    · show (if j = i + 1 then o else b j) = none
      rw [if_neg (by omega)]
      exact hbn j (by omega)) [.d T, .o ((List.range row.length).map fun t => bD (if t = 0 then some [0] else none)), .no, .no, .no, .no] ⟨fun t => if t = 0 then some [0] else none, .no, .no, .no, fun j hj => by
    have : j = 0 := by omega
    subst this
    exact SC_zero, fun j hj => by
    show (if j = 0 then some [0] else none) = none
    rw [if_neg (by omega)], rfl⟩
  rw [rng_len] at hb hbn
  subst hρ
  -- the ranked ones
  generalize hzs : (((List.range row.length).filter fun k => !decide (b k = none)).map fun k => kz ((b k).getD [])) = zs
  have key : lcL (bName 5) (e2 isntD (bnm 5) (cst .none)) ce3_fitting [.d T, .d (.list ((List.range row.length).map fun t => bD (b t))), s2, .no, s4, .no] ((List.range row.length).map fun t => bD (b t)) = some (zs.map pD) := by
    rw [lcL_map (d := fun t => bD (b t)) (β := fun t => [.d T, .d (.list ((List.range row.length).map fun t => bD (b t))), s2, .no, s4, .d (bD (b t))]) (T := fun t => !decide (b t = none)) (F := fun t => pD (kz ((b t).getD []))), ← hzs]
    · simp
    · intro t _
      refine ⟨rfl, ?_, fun ht => ?_⟩
      · simp only [e2, bnm, cst, R.bind, R.of, List.getElem?_cons_zero, List.getElem?_cons_succ, isntD, isNone_bD]
      · cases hbt : b t with
        | none => rw [hbt] at ht; simp at ht
        | some L =>
          have l1 := lenD_bD L
          show ce3_fitting _ = R.ok (pD (kz L))
          rw [← pD_kz]
          generalize bD (some L) = X at *
          simp only [ce3_fitting, tupE, cons', e1, e2, nm, bnm, cst, R.bind, R.of, List.getElem?_cons_zero, List.getElem?_cons_succ, l1, subD, List.length_cons, List.length_nil, Nat.zero_add, Nat.reduceAdd, Nat.reduceLeDiff, if_true]
  have hzmem : ∀ z ∈ zs, ∃ k L, k < row.length ∧ b k = some L ∧ z = kz L := fun z hz => by
    rw [← hzs] at hz
    obtain ⟨k, hk, rfl⟩ := List.mem_map.mp hz
    obtain ⟨hk1, hk2⟩ := List.mem_filter.mp hk
    cases hbk : b k with
    | none => rw [hbk] at hk2; simp at hk2
    | some L => exact ⟨k, L, List.mem_range.mp hk1, hbk, rfl⟩
  have hzin : ∀ k L, k < row.length → b k = some L → kz L ∈ zs := fun k L hk hbk => by
    rw [← hzs]
    refine List.mem_map.mpr ⟨k, List.mem_filter.mpr ⟨List.mem_range.mpr hk, by rw [hbk]; rfl⟩, by rw [hbk]; rfl⟩
  have hb0 : ∃ L, b 0 = some L := by
    have := hb 0 (by omega)
    cases h0 : b 0 with
    | none =>
      rw [h0] at this
      exact absurd SC_zero.inn (this [0])
    | some L => exact ⟨L, rfl⟩
  obtain ⟨L0, hL0⟩ := hb0
  have hne : zs ≠ [] := fun z => by
    have := hzin 0 L0 (by omega) hL0
    rw [z] at this
    simp at this
  obtain ⟨z0, zr, hs1, hs2, hs3⟩ := sort_head hne
  obtain ⟨kf, F, hkf, hbF, rfl⟩ := hzmem z0 hs2
  have hmF := hb kf (by omega)
  rw [hbF] at hmF
  refine ⟨F, ⟨⟨kf, hkf, hmF.inn⟩, fun N hN => ?_⟩, fn_rt rfl ?_⟩
  · obtain ⟨k, hk, hS⟩ := hN
    have hmk := hb k (by omega)
    cases hbk : b k with
    | none =>
      rw [hbk] at hmk
      exact absurd hS (hmk N)
    | some L =>
      rw [hbk] at hmk
      have q1 := hs3 _ (hzin k L hk hbk)
      have q2 : leZ (kz L) (kz N) = true := by
        have := hmk.low N hS
        unfold leZ
        unfold bet at this
        rw [this]
        rfl
      have q3 := leZ_trans _ _ _ q1 q2
      unfold leZ at q3
      unfold bet
      simpa using q3
  · show tl0_fitting [.d T, .no, .no, .no, .no, .no] = _
    have c1 : (-1000000000 : Int) ≤ 1 ∧ (1 : Int) ≤ 1000000000 ∧ -1000000000 ≤ (row.length : Int) ∧ (row.length : Int) ≤ 1000000000 := by omega
    have ht : ((row.length : Int) - 1).toNat = row.length - 1 := by omega
    have g1 : ((List.range row.length).map fun t => bD (b t)).length ≤ 1000000 := by simp; omega
    have hsP : sortPD [.list (zs.map pD)] = some (.list ((sortZ zs).map pD)) := by
      simp only [sortPD]
      rw [rowsP_map]
      rfl
    rw [hs1] at hsP
    have x0 : ixD (.list ((kz F :: zr).map pD)) (.int 0) = some (pD (kz F)) := by
      have := ixL pD (kz F :: zr) 0 (by simp)
      exact this
    have x1 : ixD (pD (kz F)) (.int 1) = some (.list ((iz F).map .int)) := rfl
    generalize hBl : ((List.range row.length).map fun t => bD (b t)) = Bl at *
    rw [tl0_fitting, seq_nx (ρ' := [.d T, .no, .no, .no, .no, .no]) (by
      simp only [sDrop, M.call, cons', nm, cst, R.bind, R.of, List.getElem?_cons_zero, hlr, Out.r, R.out]), tl1_fitting,
      seq_nx (ρ' := [.d T, .o ((List.range row.length).map fun _ => bD none), .no, .no, .no, .no]) (by
      simp only [sSet, nO, e1, e2, lstE, cons', bnm, cst, R.bind, R.of, List.getElem?_cons_zero, List.length_cons, List.length_nil, Nat.zero_add, Nat.reduceLeDiff, if_true, hlen, hrep, R.out, List.set]), tl2_fitting,
      seq_nx (ρ' := [.d T, .o ((List.range row.length).map fun t => bD (if t = 0 then some [0] else none)), .no, .no, .no, .no]) (by
      simp only [sPut, lstE, cons', cst, R.bind, R.of, List.getElem?_cons_zero, List.getElem?_cons_succ, List.length_cons, List.length_nil, Nat.zero_add, Nat.reduceLeDiff, if_true, R.out, hix0, List.set, hput]), tl3_fitting,
      seq_nx (ρ' := [.d T, .o Bl, s2, .no, s4, s5]) (by
      rw [sFor, show rg2 (cst (.int 1)) (e1 lenD (cons' (bnm 0) (cst []))) [.d T, .o ((List.range row.length).map fun t => bD (if t = 0 then some [0] else none)), .no, .no, .no, .no] = .ok (rng 1 (row.length - 1)) from by
        simp only [rg2, e1, cons', bnm, cst, R.bind, R.of, List.getElem?_cons_zero, hlen, c1, and_self, if_true, ht]]
      exact e), tl4_fitting,
      seq_nx (ρ' := [.d T, .d (.list Bl), s2, .d (.list ((kz F :: zr).map pD)), s4, s5]) (by
      rw [sFrz, show frz 1 [.d T, .o Bl, s2, .no, s4, s5] = [.d T, .d (.list Bl), s2, .no, s4, s5] from rfl]
      simp only [sSet, nD, e1, cons', lcD, lcE, itE, items, nm, cst, R.bind, R.of, List.getElem?_cons_zero, List.getElem?_cons_succ, g1, if_true, wip, List.set]
      rw [key]
      simp only [R.bind, hsP, R.out]), tl5_fitting]
    simp only [sRet, e2, bnm, cst, R.bind, R.of, List.getElem?_cons_zero, List.getElem?_cons_succ, x0, x1, R.out]
end G
namespace G
open M PySem
def runs (r : Nat → Int) : Nat → Nat
  | 0 => 1
  | n + 1 => if r (n + 1) = r n then runs r n + 1 else 1
theorem runs_pos (r : Nat → Int) (n : Nat) : 1 ≤ runs r n := by
  cases n with
  | zero => exact Nat.le_refl 1
  | succ n => unfold runs; split <;> omega
theorem runs_iff (r : Nat → Int) : ∀ n m : Nat, 1 ≤ m → (m ≤ runs r n ↔ m ≤ n + 1 ∧ ∀ j, n + 1 - m ≤ j → j ≤ n → r j = r n)
  | 0, m, h => by
    unfold runs
    constructor
    · intro h1
      exact ⟨by omega, fun j _ hj => by rw [show j = 0 by omega]⟩
    · intro h1; omega
  | n + 1, m, h => by
    unfold runs
    by_cases c : r (n + 1) = r n
    · rw [if_pos c]
      by_cases hm : m = 1
      · subst hm
        exact ⟨fun _ => ⟨by omega, fun j h1 h2 => by rw [show j = n + 1 by omega]⟩, fun _ => by omega⟩
      · have ih := runs_iff r n (m - 1) (by omega)
        constructor
        · intro h1
          obtain ⟨i1, i2⟩ := ih.mp (by omega)
          refine ⟨by omega, fun j h2 h3 => ?_⟩
          by_cases hj : j = n + 1
          · rw [hj]
          · rw [i2 j (by omega) (by omega), c]
        · rintro ⟨i1, i2⟩
          have := ih.mpr ⟨by omega, fun j h2 h3 => by rw [i2 j (by omega) (by omega), c]⟩
          omega
    · rw [if_neg c]
      constructor
      · intro h1
        exact ⟨by omega, fun j h2 h3 => by rw [show j = n + 1 by omega]⟩
      · rintro ⟨i1, i2⟩
        by_cases hm : m ≤ 1
        · exact hm
        · exact absurd (i2 n (by omega) (by omega)).symm c
def here (r : Nat → Int) (m : Nat) : Nat → Option Int
  | 0 => none
  | n + 1 => if m ≤ runs r n then some (r n) else here r m n
def stl (r : Nat → Int) (m L : Nat) : List D := (List.range L).map fun n => optD (here r m (n + 1))
theorem stl_succ (r : Nat → Int) (m L : Nat) : stl r m (L + 1) = stl r m L ++ [optD (here r m (L + 1))] := by simp [stl, List.range_succ]
theorem stl_leaf (r : Nat → Int) (m L : Nat) : (stl r m L).all leaf = true := by simp [stl, leaf_opt]
theorem set_test {row : List Int} {i m : Nat} (hi : i < row.length) (hm : 1 ≤ m) (h : m ≤ i + 1) (hl : row.length ≤ 4000) :
    ∃ u : Nat, (slD (.tuple (row.map .int)) (some ((i : Int) + 1 - m)) (some ((i : Int) + 1))).bind lenSetD = some (.int u) ∧ (u = 1 ↔ m ≤ runs (fun j => row.getD j 0) i) := by
  have e0 : ((i : Int) + 1 - m) = ((i + 1 - m : Nat) : Int) := by omega
  have e3 : ((i : Int) + 1) = ((i + 1 : Nat) : Int) := by omega
  rw [e0, e3]
  have hc : cutD (row.map PyData.int) (some ((i + 1 - m : Nat) : Int)) (some ((i + 1 : Nat) : Int)) = ((row.drop (i + 1 - m)).take m).map .int := by
    unfold cutD
    rw [List.length_map, sIx_mid (by omega), sIx_mid (by omega), show i + 1 - (i + 1 - m) = m by omega, List.map_take, List.map_drop]
  refine ⟨(Mset.uniq ((row.drop (i + 1 - m)).take m)).length, ?_, ?_⟩
  · simp only [slD, hc, Option.bind_some, lenSetD, itemsInt, ints_map]
    rw [if_pos (by simp; omega)]
  · have hne : (row.drop (i + 1 - m)).take m ≠ [] := by
      intro z
      have := congrArg List.length z
      simp at this
      omega
    have hat : ∀ j, i + 1 - m ≤ j → j ≤ i → row.getD j 0 ∈ (row.drop (i + 1 - m)).take m := fun j h1 h2 => by
      refine List.mem_of_getElem? (i := j - (i + 1 - m)) ?_
      rw [List.getElem?_take, if_pos (by omega), List.getElem?_drop, show i + 1 - m + (j - (i + 1 - m)) = j by omega, List.getElem?_eq_getElem (by omega), List.getD_eq_getElem?_getD, List.getElem?_eq_getElem (by omega)]
      rfl
    rw [uniq_one hne, runs_iff _ i m hm]
    constructor
    · rintro ⟨a, ha⟩
      exact ⟨h, fun j h1 h2 => by rw [ha _ (hat j h1 h2), ha _ (hat i (by omega) (by omega))]⟩
    · rintro ⟨_, h2⟩
      refine ⟨row.getD i 0, fun x hx => ?_⟩
      obtain ⟨k, hk⟩ := List.getElem?_of_mem hx
      rw [List.getElem?_take] at hk
      split at hk
      · rename_i hkm
        rw [List.getElem?_drop] at hk
        have := h2 (i + 1 - m + k) (by omega) (by omega)
        simp only [List.getD_eq_getElem?_getD, hk] at this
        simpa [List.getD_eq_getElem?_getD] using this
      · cases hk
theorem settled_turn {row : List Int} {i m : Nat} {acc : List D} {o : Option Int} (hi : i < row.length) (hm : 1 ≤ m) (hl : row.length ≤ 4000) (ha : acc.length < 1000000) :
    lb1_settled [.d (.tuple (row.map .int)), .d (.int (m : Nat)), .o acc, .d (optD o), .d (.int (i : Nat))] = .nx [.d (.tuple (row.map .int)), .d (.int (m : Nat)), .o (acc ++ [optD (if m ≤ runs (fun j => row.getD j 0) i then some (row.getD i 0) else o)]), .d (optD (if m ≤ runs (fun j => row.getD j 0) i then some (row.getD i 0) else o)), .d (.int (i : Nat))] := by
  by_cases h : m ≤ i + 1
  · obtain ⟨u, hu, hiff⟩ := set_test hi hm h hl
    cases hsl : slD (.tuple (row.map .int)) (some ((i : Int) + 1 - m)) (some ((i : Int) + 1)) with
    | none => rw [hsl] at hu; cases hu
    | some w =>
      rw [hsl] at hu
      simp only [Option.bind_some] at hu
      have hge : ((m : Int) ≤ (i : Int) + 1) := by omega
      have hix := ixT row i hi
      by_cases c : m ≤ runs (fun j => row.getD j 0) i
      · have hu1 : u = 1 := hiff.mpr c
        subst hu1
        rw [if_pos c]
        simp only [lb1_settled, fnM0, fnM, sSeq, sIf, sRet, sRetN, sSet, sNil, sDrop, sPar, sPar3, sPar4, sUnp, sApp, sExt, sPut, sFrz, own, frz, nD, nO, nLst, e1, e2, nm, bnm, cst, bv, chE, andT, orT, notT, andV, orV, notV, ifE, cons', tupE, lstE, asB, M.call, ncall, lcall, flatR, flatD, Out.r, Out.s, R.bind, R.of, R.out, pickF, bName, bTup, bNames, itE, items, sFor, lcD, sBad, yes, slE, asI, addD, subD, geD, List.getElem?_cons_zero, List.getElem?_cons_succ, decide_eq_true hge, hsl, hu, eqD_int, if_true, List.set]
        simp [hix, ha, optD]
      · have hu1 : ¬ u = 1 := fun z => c (hiff.mp z)
        have hu2 : ¬ (u : Int) = 1 := by omega
        rw [if_neg c]
        simp only [lb1_settled, fnM0, fnM, sSeq, sIf, sRet, sRetN, sSet, sNil, sDrop, sPar, sPar3, sPar4, sUnp, sApp, sExt, sPut, sFrz, own, frz, nD, nO, nLst, e1, e2, nm, bnm, cst, bv, chE, andT, orT, notT, andV, orV, notV, ifE, cons', tupE, lstE, asB, M.call, ncall, lcall, flatR, flatD, Out.r, Out.s, R.bind, R.of, R.out, pickF, bName, bTup, bNames, itE, items, sFor, lcD, sBad, yes, slE, asI, addD, subD, geD, List.getElem?_cons_zero, List.getElem?_cons_succ, decide_eq_true hge, hsl, hu, eqD_int, decide_eq_false hu2, if_true, List.set]
        simp [ha]
  · have c : ¬ m ≤ runs (fun j => row.getD j 0) i := fun z => h ((runs_iff _ i m hm).mp z).1
    have hge : ¬ ((m : Int) ≤ (i : Int) + 1) := by omega
    rw [if_neg c]
    simp [lb1_settled, fnM0, fnM, sSeq, sIf, sRet, sRetN, sSet, sNil, sDrop, sPar, sPar3, sPar4, sUnp, sApp, sExt, sPut, sFrz, own, frz, nD, nO, nLst, e1, e2, nm, bnm, cst, bv, chE, andT, orT, notT, andV, orV, notV, ifE, cons', tupE, lstE, asB, M.call, ncall, lcall, flatR, flatD, Out.r, Out.s, R.bind, R.of, R.out, pickF, bName, bTup, bNames, itE, items, sFor, lcD, sBad, yes, addD, geD, hge, ha]
theorem m_settled' {row : List Int} {m : Nat} (h1 : 1 ≤ row.length) (h2 : row.length ≤ 40) (h3 : ∀ x ∈ row, 0 ≤ x ∧ x ≤ 3) (hm : 1 ≤ m ∧ m ≤ 40) : m_settled [.tuple (row.map .int), .int (m : Nat)] = .rf (stl (fun j => row.getD j 0) m row.length) := by
  refine fn_rf rfl ?_
  have c0 : (1 : Int) ≤ (m : Int) ∧ (m : Int) ≤ 40 := by omega
  rw [tl0_settled, seq_nx (ρ' := [.d (.tuple (row.map .int)), .d (.int (m : Nat)), .no, .no, .no]) (by simp [fnM0, fnM, sSeq, sIf, sRet, sRetN, sSet, sNil, sDrop, sPar, sPar3, sPar4, sUnp, sApp, sExt, sPut, sFrz, own, frz, nD, nO, nLst, e1, e2, nm, bnm, cst, bv, chE, andT, orT, notT, andV, orV, notV, ifE, cons', tupE, lstE, asB, M.call, ncall, lcall, flatR, flatD, Out.r, Out.s, R.bind, R.of, R.out, pickF, bName, bTup, bNames, itE, items, sFor, lcD, sBad, yes, m_lookrow h1 h2 h3]), tl1_settled,
    seq_nx (ρ' := [.d (.tuple (row.map .int)), .d (.int (m : Nat)), .no, .no, .no]) (by simp [fnM0, fnM, sSeq, sIf, sRet, sRetN, sSet, sNil, sDrop, sPar, sPar3, sPar4, sUnp, sApp, sExt, sPut, sFrz, own, frz, nD, nO, nLst, e1, e2, nm, bnm, cst, bv, chE, andT, orT, notT, andV, orV, notV, ifE, cons', tupE, lstE, asB, M.call, ncall, lcall, flatR, flatD, Out.r, Out.s, R.bind, R.of, R.out, pickF, bName, bTup, bNames, itE, items, sFor, lcD, sBad, yes, m_whole, c0]), tl2_settled,
    seq_nx (ρ' := [.d (.tuple (row.map .int)), .d (.int (m : Nat)), .o [], .no, .no]) (by simp [fnM0, fnM, sSeq, sIf, sRet, sRetN, sSet, sNil, sDrop, sPar, sPar3, sPar4, sUnp, sApp, sExt, sPut, sFrz, own, frz, nD, nO, nLst, e1, e2, nm, bnm, cst, bv, chE, andT, orT, notT, andV, orV, notV, ifE, cons', tupE, lstE, asB, M.call, ncall, lcall, flatR, flatD, Out.r, Out.s, R.bind, R.of, R.out, pickF, bName, bTup, bNames, itE, items, sFor, lcD, sBad, yes]), tl3_settled,
    seq_nx (ρ' := [.d (.tuple (row.map .int)), .d (.int (m : Nat)), .o [], .d .none, .no]) (by simp [fnM0, fnM, sSeq, sIf, sRet, sRetN, sSet, sNil, sDrop, sPar, sPar3, sPar4, sUnp, sApp, sExt, sPut, sFrz, own, frz, nD, nO, nLst, e1, e2, nm, bnm, cst, bv, chE, andT, orT, notT, andV, orV, notV, ifE, cons', tupE, lstE, asB, M.call, ncall, lcall, flatR, flatD, Out.r, Out.s, R.bind, R.of, R.out, pickF, bName, bTup, bNames, itE, items, sFor, lcD, sBad, yes]), tl4_settled]
  obtain ⟨ρ', e, s4, hst⟩ := forL_inv (b := bName 4) (body := lb1_settled) (xs := rng 0 row.length) (fun i ρ => ∃ s4, ρ = [.d (.tuple (row.map .int)), .d (.int (m : Nat)), .o (stl (fun j => row.getD j 0) m i), .d (optD (here (fun j => row.getD j 0) m i)), s4]) (fun i x ρ hx ⟨s4, hρ⟩ => by
    obtain ⟨hi, rfl⟩ := rng_get hx
    subst hρ
    refine ⟨_, _, rfl, settled_turn hi hm.1 (by omega) (by simp [stl]; omega), .d (.int (i : Nat)), ?_⟩
    rw [stl_succ]
    rfl) _ ⟨.no, rfl⟩
  rw [rng_len] at hst
  subst hst
  have c1 : -1000000000 ≤ (row.length : Int) ∧ (row.length : Int) ≤ 1000000000 := by omega
  rw [seq_nx (ρ' := [.d (.tuple (row.map .int)), .d (.int (m : Nat)), .o (stl (fun j => row.getD j 0) m row.length), .d (optD (here (fun j => row.getD j 0) m row.length)), s4]) (by
    simp only [sFor, rg1, e1, cons', bnm, cst, R.bind, R.of, lenD, R.out, List.getElem?_cons_zero, List.getElem?_cons_succ, List.length_map, c1, and_self, if_true, Int.toNat_natCast]
    exact e), tl5_settled]
  rfl
theorem ixS (r : Nat → Int) (m L i : Nat) (h : i < L) : ixD (.list (stl r m L)) (.int (i : Nat)) = some (optD (here r m (i + 1))) := by
  have := ixL (fun n => optD (here r m (n + 1))) (List.range L) i (by simpa using h)
  simpa [stl] using this
end G
namespace G
open M PySem
/-- the other wheel, by play, from where the driver and it are -/
def go (p : Int) : Int → Int → List Int → List Int
  | _, _, [] => []
  | d, o, m :: ms => max (d + m - p) (min (d + m) o) :: go p (d + m) (max (d + m - p) (min (d + m) o)) ms
theorem go_len (p : Int) : ∀ (ms : List Int) (d o : Int), (go p d o ms).length = ms.length
  | [], _, _ => rfl
  | m :: ms, d, o => by simp [go, go_len p ms]
theorem go_loop (p : Int) (A b : Sl) : ∀ (ms : List Int) (d o : Int) (s : Sl) (acc : List D), acc.length + ms.length < 1000000 → ∃ s' d' o',
    forL (bName 4) lb1_go_along (ms.map .int) [A, .d (.int p), b, .d (.int o), s, .d (.int d), .o acc] = .nx [A, .d (.int p), b, o', s', d', .o (acc ++ (go p d o ms).map .int)]
  | [], d, o, s, acc, _ => ⟨s, .d (.int d), .d (.int o), by simp [forL, go]⟩
  | m :: ms, d, o, s, acc, h => by
    simp only [List.length_cons] at h
    obtain ⟨s', d', o', e⟩ := go_loop p A b ms (d + m) (max (d + m - p) (min (d + m) o)) (.d (.int m)) (acc ++ [.int (max (d + m - p) (min (d + m) o))]) (by simp; omega)
    refine ⟨s', d', o', ?_⟩
    have h1 : (if o < d + m then o else d + m) = min (d + m) o := by split <;> omega
    have h2 : ∀ x y : Int, (if x < y then y else x) = max x y := fun x y => by split <;> omega
    have h3 : acc.length < 1000000 := by omega
    rw [List.map_cons, forL_nx (ρ2 := [A, .d (.int p), b, .d (.int (max (d + m - p) (min (d + m) o))), .d (.int m), .d (.int (d + m)), .o (acc ++ [.int (max (d + m - p) (min (d + m) o))])]) rfl (by simp [lb1_go_along, fnM0, fnM, sSeq, sIf, sRet, sRetN, sSet, sNil, sDrop, sPar, sPar3, sPar4, sUnp, sApp, sExt, sPut, sFrz, own, frz, nD, nO, nLst, e1, e2, nm, bnm, cst, bv, chE, andT, orT, notT, andV, orV, notV, ifE, cons', tupE, lstE, asB, M.call, ncall, lcall, flatR, flatD, Out.r, Out.s, R.bind, R.of, R.out, pickF, bName, bTup, bNames, itE, items, sFor, lcD, sBad, yes, addD, subD, mulD, fdivD, modD, negD, ltD, leD, gtD, geD, isD, isntD, isNone, lenD, absD, maxD, minD, M.intD, listD, tupleD, isiE, isiTE, isi, isDict, allD, anyD, sumD, h1, h2, h3]), e]
    simp [go]
theorem m_go {ms : List Int} {p b : Int} (h : ms.length < 1000000) : m_go_along [.list (ms.map .int), .int p, .int b] = .rf ((go p b 0 ms).map .int) := by
  obtain ⟨s', d', o', e⟩ := go_loop p (.d (.list (ms.map .int))) (.d (.int b)) ms b 0 .no [] (by simpa using h)
  simp [m_go_along, tl0_go_along, tl1_go_along, tl2_go_along, tl3_go_along, fnM0, fnM, sSeq, sIf, sRet, sRetN, sSet, sNil, sDrop, sPar, sPar3, sPar4, sUnp, sApp, sExt, sPut, sFrz, own, frz, nD, nO, nLst, e1, e2, nm, bnm, cst, bv, chE, andT, orT, notT, andV, orV, notV, ifE, cons', tupE, lstE, asB, M.call, ncall, lcall, flatR, flatD, Out.r, Out.s, R.bind, R.of, R.out, pickF, bName, bTup, bNames, itE, items, sFor, lcD, sBad, yes]
  rw [e]
  simp
theorem m_goT {ms : List Int} {p b : Int} (h : ms.length < 1000000) : m_go_along [.tuple (ms.map .int), .int p, .int b] = .rf ((go p b 0 ms).map .int) := by
  obtain ⟨s', d', o', e⟩ := go_loop p (.d (.tuple (ms.map .int))) (.d (.int b)) ms b 0 .no [] (by simpa using h)
  simp [m_go_along, tl0_go_along, tl1_go_along, tl2_go_along, tl3_go_along, fnM0, fnM, sSeq, sIf, sRet, sRetN, sSet, sNil, sDrop, sPar, sPar3, sPar4, sUnp, sApp, sExt, sPut, sFrz, own, frz, nD, nO, nLst, e1, e2, nm, bnm, cst, bv, chE, andT, orT, notT, andV, orV, notV, ifE, cons', tupE, lstE, asB, M.call, ncall, lcall, flatR, flatD, Out.r, Out.s, R.bind, R.of, R.out, pickF, bName, bTup, bNames, itE, items, sFor, lcD, sBad, yes]
  rw [e]
  simp
theorem look_comp {ms : List Int} (ρ : Rho) (hρ : 2 < ρ.length) (h : ∀ m ∈ ms, -99 ≤ m ∧ m ≤ 99) : lcL (bName 2) yes ce1_look_moves ρ (ms.map .int) = some ((ms.map fun _ => true).map .bool) := by
  rw [lcL_all (d := PyData.int) (β := fun m => ρ.set 2 (.d (.int m))) (F := fun _ => .bool true), List.map_map]
  · rfl
  · intro m hm
    refine ⟨rfl, ?_⟩
    have := h m hm
    have e : (ρ.set 2 (Sl.d (.int m)))[2]? = some (.d (.int m)) := by simp [hρ]
    simp [ce1_look_moves, M.call, cons', nm, e, e2, cst, subD, R.bind, R.of, m_whole, Out.r]
    omega
theorem m_look {ms : List Int} {p : Int} (hl : ms.length ≤ 40) (h : ∀ m ∈ ms, -99 ≤ m ∧ m ≤ 99) (hp : 0 ≤ p ∧ p ≤ 9) : m_look_moves [.list (ms.map .int), .int p] = .rt .none := by
  have e1' : ¬ (40 : Int) < ms.length := by omega
  have e3 := look_comp (wip [2] [.d (.list (ms.map .int)), .d (.int p), .no]) (by simp [wip]) h
  have e4 : ms.length ≤ 1000000 := by omega
  have e5 : boolsOf ((ms.map fun _ => true).map .bool) = some (ms.map fun _ => true) := bools_map _
  simp only [wip] at e3
  simp [m_look_moves, tl0_look_moves, tl1_look_moves, tl2_look_moves, fnM0, fnM, sSeq, sIf, sRet, sRetN, sSet, sNil, sDrop, sPar, sPar3, sPar4, sUnp, sApp, sExt, sPut, sFrz, own, frz, nD, nO, nLst, e1, e2, nm, bnm, cst, bv, chE, andT, orT, notT, andV, orV, notV, ifE, cons', tupE, lstE, asB, M.call, ncall, lcall, flatR, flatD, Out.r, Out.s, R.bind, R.of, R.out, pickF, bName, bTup, bNames, itE, items, sFor, lcD, sBad, yes, addD, subD, mulD, fdivD, modD, negD, ltD, leD, gtD, geD, isD, isntD, isNone, lenD, absD, maxD, minD, M.intD, listD, tupleD, isiE, isiTE, isi, isDict, allD, anyD, sumD, e1', m_whole, hp, lcE, wip, e4]
  simp [yes] at e3 e5 ⊢
  simp [e3, e5, m_whole, hp]
theorem m_lookT {ms : List Int} {p : Int} (hl : ms.length ≤ 40) (h : ∀ m ∈ ms, -99 ≤ m ∧ m ≤ 99) (hp : 0 ≤ p ∧ p ≤ 9) : m_look_moves [.tuple (ms.map .int), .int p] = .rt .none := by
  have e1' : ¬ (40 : Int) < ms.length := by omega
  have e3 := look_comp (wip [2] [.d (.tuple (ms.map .int)), .d (.int p), .no]) (by simp [wip]) h
  have e4 : ms.length ≤ 1000000 := by omega
  have e5 : boolsOf ((ms.map fun _ => true).map .bool) = some (ms.map fun _ => true) := bools_map _
  simp only [wip] at e3
  simp [m_look_moves, tl0_look_moves, tl1_look_moves, tl2_look_moves, fnM0, fnM, sSeq, sIf, sRet, sRetN, sSet, sNil, sDrop, sPar, sPar3, sPar4, sUnp, sApp, sExt, sPut, sFrz, own, frz, nD, nO, nLst, e1, e2, nm, bnm, cst, bv, chE, andT, orT, notT, andV, orV, notV, ifE, cons', tupE, lstE, asB, M.call, ncall, lcall, flatR, flatD, Out.r, Out.s, R.bind, R.of, R.out, pickF, bName, bTup, bNames, itE, items, sFor, lcD, sBad, yes, addD, subD, mulD, fdivD, modD, negD, ltD, leD, gtD, geD, isD, isntD, isNone, lenD, absD, maxD, minD, M.intD, listD, tupleD, isiE, isiTE, isi, isDict, allD, anyD, sumD, e1', m_whole, hp, lcE, wip, e4]
  simp [yes] at e3 e5 ⊢
  simp [e3, e5, m_whole, hp]
def sg (m : Int) : Int := if m > 0 then 1 else -1
/-- never far -/
theorem go_near (p : Int) : ∀ (ms : List Int) (d o k : Int), (∀ m ∈ ms, -7 ≤ m ∧ m ≤ 7) → -7 * k ≤ d → d ≤ p + 7 * k → -7 * k ≤ o → o ≤ 7 * k → ∀ x ∈ go p d o ms, -7 * (k + ms.length) ≤ x ∧ x ≤ 7 * (k + ms.length)
  | [], _, _, _, _, _, _, _, _ => by simp [go]
  | m :: ms, d, o, k, hm, h1, h2, h3, h4 => by
    intro x hx
    have hm0 := hm m (by simp)
    simp only [go, List.mem_cons] at hx
    rcases hx with rfl | hx
    · simp only [List.length_cons]; omega
    · have := go_near p ms (d + m) (max (d + m - p) (min (d + m) o)) (k + 1) (fun y hy => hm y (by simp [hy])) (by omega) (by omega) (by omega) (by omega) x hx
      simp only [List.length_cons]; omega
end G
namespace G
open M PySem
theorem top_of {P : Int → Int → Int} (hP : Dr P) (k : Int) : ∃ t : Int, (t = 3 ∨ t = 9 ∨ t = 15) ∧ ixD (.list [.int 3, .int 9, .int 15]) (.int (P k 3)) = some (.int t) := by
  have h1 := hP.lo k 3 (by decide)
  have h2 := hP.hi k 3 (by decide)
  have h : P k 3 = 0 ∨ P k 3 = 1 ∨ P k 3 = 2 := by omega
  rcases h with h | h | h <;> rw [h]
  · exact ⟨3, .inl rfl, rfl⟩
  · exact ⟨9, .inr (.inl rfl), rfl⟩
  · exact ⟨15, .inr (.inr rfl), rfl⟩
theorem m_moves {P : Int → Int → Int} (hP : Dr P) {a : Int} (ha : 0 ≤ a) : ∃ ms : List Int, ms.length ≤ 12 ∧ (∀ m ∈ ms, -7 ≤ m ∧ m ≤ 7) ∧ m__law_moves P [SCR, .int a] = .rf (ms.map .int) := by
  obtain ⟨t, ht, hix⟩ := top_of hP a
  have h1 := hP.lo (a + 1) 13 (by decide)
  have h2 := hP.hi (a + 1) 13 (by decide)
  refine ⟨((List.range (P (a + 1) 13).toNat).map fun (i : Nat) => 0 + (i : Int)).map fun k => P (a + 2 + k) t - t / 2, by simp; omega, fun m hm => ?_, ?_⟩
  · obtain ⟨k, hk, rfl⟩ := List.mem_map.mp hm
    have h3 := hP.lo (a + 2 + k) t (by omega)
    have h4 := hP.hi (a + 2 + k) t (by omega)
    omega
  · refine fn_rf rfl ?_
    have c1 : 0 ≤ a ∧ (0 : Int) < 3 := ⟨ha, by decide⟩
    have c2 : 0 ≤ a + 1 ∧ (0 : Int) < 13 := ⟨by omega, by decide⟩
    have c3 : -1000000000 ≤ P (a + 1) 13 ∧ P (a + 1) 13 ≤ 1000000000 := by omega
    have c4 : (P (a + 1) 13).toNat ≤ 1000000 := by omega
    rw [tl0__law_moves, seq_nx (ρ' := [.d SCR, .d (.int a), .d (.int t), .no]) (by simp [fnM0, fnM, sSeq, sIf, sRet, sRetN, sSet, sNil, sDrop, sPar, sPar3, sPar4, sUnp, sApp, sExt, sPut, sFrz, own, frz, nD, nO, nLst, e1, e2, nm, bnm, cst, bv, chE, andT, orT, notT, andV, orV, notV, ifE, cons', tupE, lstE, asB, M.call, ncall, lcall, flatR, flatD, Out.r, Out.s, R.bind, R.of, R.out, pickF, bName, bTup, bNames, itE, items, sFor, lcD, sBad, yes, SCR, c1, hix])]
    have key : lcL (bName 3) yes (ce1__law_moves P) [.d SCR, .d (.int a), .d (.int t), .no] (rng 0 (P (a + 1) 13).toNat) = some ((((List.range (P (a + 1) 13).toNat).map fun (i : Nat) => 0 + (i : Int)).map fun k => P (a + 2 + k) t - t / 2).map .int) := by
      rw [rng_map, lcL_all (d := PyData.int) (β := fun k => [.d SCR, .d (.int a), .d (.int t), .d (.int k)]) (F := fun k => .int (P (a + 2 + k) t - t / 2))]
      · simp
      · intro k hk
        obtain ⟨i, _, rfl⟩ := List.mem_map.mp hk
        refine ⟨rfl, ?_⟩
        have c5 : 0 ≤ a + 2 + (0 + (i : Int)) ∧ 0 < t := by omega
        simp only [Int.zero_add] at c5 ⊢
        simp [ce1__law_moves, fnM0, fnM, sSeq, sIf, sRet, sRetN, sSet, sNil, sDrop, sPar, sPar3, sPar4, sUnp, sApp, sExt, sPut, sFrz, own, frz, nD, nO, nLst, e1, e2, nm, bnm, cst, bv, chE, andT, orT, notT, andV, orV, notV, ifE, cons', tupE, lstE, asB, M.call, ncall, lcall, flatR, flatD, Out.r, Out.s, R.bind, R.of, R.out, pickF, bName, bTup, bNames, itE, items, sFor, lcD, sBad, yes, SCR, addD, subD, fdivD, c5]
    have hlen : (rng 0 (P (a + 1) 13).toNat).length ≤ 1000000 := by simp [rng]; omega
    simp only [tl1__law_moves, sRetN, nO, lcE, rg1, M.call, cons', nm, bnm, cst, e2, addD, R.bind, R.of, pickF, SCR, List.getElem?_cons_zero, List.getElem?_cons_succ, Out.r, c2, c3, and_self, if_true, hlen, wip, List.set, R.out]
    rw [show (PyData.dict [(PyData.none, PyData.none)]) = SCR from rfl, key]
end G
namespace G
open M PySem
theorem m_foll {ms : List Int} {p b : Int} (h1 : ms.length ≤ 40) (h2 : ∀ m ∈ ms, -99 ≤ m ∧ m ≤ 99) (hp : 0 ≤ p ∧ p ≤ 9) (hb : 0 ≤ b ∧ b ≤ p) : m_followed [.list (ms.map .int), .int p, .int b] = .rf ((go p b 0 ms).map .int) := by
  refine fn_rf rfl ?_
  rw [tl0_followed, seq_nx (ρ' := [.d (.list (ms.map .int)), .d (.int p), .d (.int b)]) (by simp [fnM0, fnM, sSeq, sIf, sRet, sRetN, sSet, sNil, sDrop, sPar, sPar3, sPar4, sUnp, sApp, sExt, sPut, sFrz, own, frz, nD, nO, nLst, e1, e2, nm, bnm, cst, bv, chE, andT, orT, notT, andV, orV, notV, ifE, cons', tupE, lstE, asB, M.call, ncall, lcall, flatR, flatD, Out.r, Out.s, R.bind, R.of, R.out, pickF, bName, bTup, bNames, itE, items, sFor, lcD, sBad, yes, m_look h1 h2 hp]), tl1_followed, seq_nx (ρ' := [.d (.list (ms.map .int)), .d (.int p), .d (.int b)]) (by simp [fnM0, fnM, sSeq, sIf, sRet, sRetN, sSet, sNil, sDrop, sPar, sPar3, sPar4, sUnp, sApp, sExt, sPut, sFrz, own, frz, nD, nO, nLst, e1, e2, nm, bnm, cst, bv, chE, andT, orT, notT, andV, orV, notV, ifE, cons', tupE, lstE, asB, M.call, ncall, lcall, flatR, flatD, Out.r, Out.s, R.bind, R.of, R.out, pickF, bName, bTup, bNames, itE, items, sFor, lcD, sBad, yes, m_whole, hb])]
  simp [tl2_followed, fnM0, fnM, sSeq, sIf, sRet, sRetN, sSet, sNil, sDrop, sPar, sPar3, sPar4, sUnp, sApp, sExt, sPut, sFrz, own, frz, nD, nO, nLst, e1, e2, nm, bnm, cst, bv, chE, andT, orT, notT, andV, orV, notV, ifE, cons', tupE, lstE, asB, M.call, ncall, lcall, flatR, flatD, Out.r, Out.s, R.bind, R.of, R.out, pickF, bName, bTup, bNames, itE, items, sFor, lcD, sBad, yes, m_go (show ms.length < 1000000 by omega)]
theorem m_follT {ms : List Int} {p b : Int} (h1 : ms.length ≤ 40) (h2 : ∀ m ∈ ms, -99 ≤ m ∧ m ≤ 99) (hp : 0 ≤ p ∧ p ≤ 9) (hb : 0 ≤ b ∧ b ≤ p) : m_followed [.tuple (ms.map .int), .int p, .int b] = .rf ((go p b 0 ms).map .int) := by
  refine fn_rf rfl ?_
  rw [tl0_followed, seq_nx (ρ' := [.d (.tuple (ms.map .int)), .d (.int p), .d (.int b)]) (by simp [fnM0, fnM, sSeq, sIf, sRet, sRetN, sSet, sNil, sDrop, sPar, sPar3, sPar4, sUnp, sApp, sExt, sPut, sFrz, own, frz, nD, nO, nLst, e1, e2, nm, bnm, cst, bv, chE, andT, orT, notT, andV, orV, notV, ifE, cons', tupE, lstE, asB, M.call, ncall, lcall, flatR, flatD, Out.r, Out.s, R.bind, R.of, R.out, pickF, bName, bTup, bNames, itE, items, sFor, lcD, sBad, yes, m_lookT h1 h2 hp]), tl1_followed, seq_nx (ρ' := [.d (.tuple (ms.map .int)), .d (.int p), .d (.int b)]) (by simp [fnM0, fnM, sSeq, sIf, sRet, sRetN, sSet, sNil, sDrop, sPar, sPar3, sPar4, sUnp, sApp, sExt, sPut, sFrz, own, frz, nD, nO, nLst, e1, e2, nm, bnm, cst, bv, chE, andT, orT, notT, andV, orV, notV, ifE, cons', tupE, lstE, asB, M.call, ncall, lcall, flatR, flatD, Out.r, Out.s, R.bind, R.of, R.out, pickF, bName, bTup, bNames, itE, items, sFor, lcD, sBad, yes, m_whole, hb])]
  simp [tl2_followed, fnM0, fnM, sSeq, sIf, sRet, sRetN, sSet, sNil, sDrop, sPar, sPar3, sPar4, sUnp, sApp, sExt, sPut, sFrz, own, frz, nD, nO, nLst, e1, e2, nm, bnm, cst, bv, chE, andT, orT, notT, andV, orV, notV, ifE, cons', tupE, lstE, asB, M.call, ncall, lcall, flatR, flatD, Out.r, Out.s, R.bind, R.of, R.out, pickF, bName, bTup, bNames, itE, items, sFor, lcD, sBad, yes, m_goT (show ms.length < 1000000 by omega)]
end G
namespace G
open M PySem
def lostL : Nat → Int → List Int → List Int → List Int
  | k, a, m :: ms, g :: gs => if m ≠ 0 ∧ g = a then (k : Int) :: lostL (k + 1) g ms gs else lostL (k + 1) g ms gs
  | _, _, _, _ => []
theorem lostL_len : ∀ (ms gs : List Int) (k : Nat) (a : Int), (lostL k a ms gs).length ≤ ms.length
  | [], _, _, _ => by simp [lostL]
  | _ :: _, [], _, _ => by simp [lostL]
  | m :: ms, g :: gs, k, a => by
    have := lostL_len ms gs (k + 1) g
    unfold lostL
    split <;> simp <;> omega
/-- by places -/
theorem lost_range : ∀ (ms gs : List Int) (a : Int) (k : Nat), gs.length = ms.length → lostL k a ms gs = ((List.range ms.length).filter fun i => decide (ms[i]? ≠ some 0) && decide ((a :: gs)[i]? = gs[i]?)).map fun (i : Nat) => ((i + k : Nat) : Int)
  | [], gs, a, k, h => by simp [lostL]
  | m :: ms, [], a, k, h => by simp at h
  | m :: ms, g :: gs, a, k, h => by
    have ih := lost_range ms gs g (k + 1) (by simpa using h)
    have hr : List.range (m :: ms).length = 0 :: (List.range ms.length).map (· + 1) := by rw [List.length_cons, List.range_succ_eq_map]
    rw [hr, List.filter_cons]
    have ht : ((List.range ms.length).map (· + 1)).filter (fun i => decide ((m :: ms)[i]? ≠ some 0) && decide ((a :: g :: gs)[i]? = (g :: gs)[i]?)) = ((List.range ms.length).filter fun i => decide (ms[i]? ≠ some 0) && decide ((g :: gs)[i]? = gs[i]?)).map (· + 1) := by
      rw [List.filter_map]
      congr 1
    rw [ht]
    have hm : (((List.range ms.length).filter fun i => decide (ms[i]? ≠ some 0) && decide ((g :: gs)[i]? = gs[i]?)).map (· + 1)).map (fun (i : Nat) => ((i + k : Nat) : Int)) = lostL (k + 1) g ms gs := by
      rw [ih, List.map_map]
      congr 1
      funext i
      simp
      omega
    unfold lostL
    by_cases c : m ≠ 0 ∧ g = a
    · rw [if_pos c]
      have : (decide ((m :: ms)[0]? ≠ some 0) && decide ((a :: g :: gs)[0]? = (g :: gs)[0]?)) = true := by simp [c.1, c.2]
      rw [if_pos this, List.map_cons, hm]
      simp
    · rw [if_neg c]
      have : ¬ (decide ((m :: ms)[0]? ≠ some 0) && decide ((a :: g :: gs)[0]? = (g :: gs)[0]?)) = true := by
        simp
        intro h1 h2
        exact c ⟨h1, h2.symm⟩
      rw [if_neg this, hm]
theorem at_nat (xs : List Int) (i : Nat) : ixD (.list (xs.map .int)) (.int (i : Nat)) = (xs[i]?).map .int := by
  simp only [ixD, L2.atI, L2.ixN, List.length_map]
  by_cases h : i < xs.length
  · rw [if_pos (by omega), if_pos (by omega)]
    simp
  · rw [if_pos (by omega), if_neg (by omega), List.getElem?_eq_none (by omega)]
    rfl
theorem m_lost {ms : List Int} {p b : Int} (h1 : ms.length ≤ 40) (h2 : ∀ m ∈ ms, -99 ≤ m ∧ m ≤ 99) (hp : 0 ≤ p ∧ p ≤ 9) (hb : 0 ≤ b ∧ b ≤ p) : m_lost_moves [.list (ms.map .int), .int p, .int b] = .rf ((lostL 0 0 ms (go p b 0 ms)).map .int) := by
  have hl := go_len p ms b 0
  refine fn_rf rfl ?_
  have hc : (1 : Nat) + (go p b 0 ms).length ≤ 1000000 := by omega
  rw [tl0_lost_moves, seq_nx (ρ' := [.d (.list (ms.map .int)), .d (.int p), .d (.int b), .d (.list (((0 : Int) :: go p b 0 ms).map .int)), .no]) (by simp [fnM0, fnM, sSeq, sIf, sRet, sRetN, sSet, sNil, sDrop, sPar, sPar3, sPar4, sUnp, sApp, sExt, sPut, sFrz, own, frz, nD, nO, nLst, e1, e2, nm, bnm, cst, bv, chE, andT, orT, notT, andV, orV, notV, ifE, cons', tupE, lstE, asB, M.call, ncall, lcall, flatR, flatD, Out.r, Out.s, R.bind, R.of, R.out, pickF, bName, bTup, bNames, itE, items, sFor, lcD, sBad, yes, m_foll h1 h2 hp hb, addD, hc])]
  have key : lcL (bName 4) ct1_lost_moves (nm 4) [.d (.list (ms.map .int)), .d (.int p), .d (.int b), .d (.list (((0 : Int) :: go p b 0 ms).map .int)), .no] (rng 0 ms.length) = some ((lostL 0 0 ms (go p b 0 ms)).map .int) := by
    rw [lost_range ms _ 0 0 hl, rng, lcL_map (d := fun (i : Nat) => PyData.int (0 + (i : Int))) (β := fun i => [.d (.list (ms.map .int)), .d (.int p), .d (.int b), .d (.list (((0 : Int) :: go p b 0 ms).map .int)), .d (.int (i : Nat))]) (T := fun i => decide (ms[i]? ≠ some 0) && decide (((0 : Int) :: go p b 0 ms)[i]? = (go p b 0 ms)[i]?)) (F := fun i => .int (i : Nat))]
    · simp [List.map_map, Function.comp_def]
    · intro i hi
      have hi' : i < ms.length := List.mem_range.mp hi
      have hg : i < (go p b 0 ms).length := by omega
      have a1 := at_nat ms i
      have a2 := at_nat ((0 : Int) :: go p b 0 ms) i
      have a3 := at_nat ((0 : Int) :: go p b 0 ms) (i + 1)
      have hc1 : i < ((0 : Int) :: go p b 0 ms).length := by simp; omega
      rw [List.getElem?_eq_getElem hi'] at a1
      rw [List.getElem?_eq_getElem hc1] at a2
      rw [List.getElem?_cons_succ, List.getElem?_eq_getElem hg] at a3
      have hcast : ((i + 1 : Nat) : Int) = (i : Int) + 1 := by omega
      rw [hcast] at a3
      refine ⟨by simp [bName], ?_, fun _ => rfl⟩
      rw [List.getElem?_eq_getElem hi', List.getElem?_eq_getElem hg, List.getElem?_eq_getElem hc1]
      simp only [ct1_lost_moves, andT, e2, bnm, cst, List.getElem?_cons_zero, List.getElem?_cons_succ, R.bind, a1, a2, a3, R.of, Option.map_some, neD_int, eqD_int, addD, Option.some.injEq]
      by_cases c : ms[i] = 0 <;> simp [c]
  have h3 : (rng 0 ms.length).length ≤ 1000000 := by simp [rng]; omega
  have c1 : -1000000000 ≤ (ms.length : Int) ∧ (ms.length : Int) ≤ 1000000000 := by omega
  simp only [tl1_lost_moves, sRetN, nO, lcE, rg1, e1, cons', bnm, cst, R.bind, R.of, lenD_list, List.length_map, List.getElem?_cons_zero, List.getElem?_cons_succ, c1, and_self, if_true, wip, List.set, R.out, Int.toNat_natCast, h3, key]
/-- the last one, 0 of none -/
def lastOf (xs : List Int) : Int := xs.getLast?.getD 0
theorem last_ix (xs : List Int) (h : xs ≠ []) : ixD (.list (xs.map .int)) (.int (-1)) = some (.int (lastOf xs)) := by
  have e : xs = xs.dropLast ++ [lastOf xs] := by
    unfold lastOf
    rw [List.getLast?_eq_getLast h]
    exact (List.dropLast_concat_getLast h).symm
  have := L2.atI_last (xs.dropLast.map PyData.int) (.int (lastOf xs))
  rw [← List.map_singleton, ← List.map_append, ← e] at this
  exact this
theorem go_bd {p : Int} (hp : 0 ≤ p) (d o m : Int) : 0 ≤ d + m - max (d + m - p) (min (d + m) o) ∧ d + m - max (d + m - p) (min (d + m) o) ≤ p := by omega
def endsL (ms : List Int) (p : Int) : List Int := ((List.range (p + 1).toNat).map fun (i : Nat) => 0 + (i : Int)).map fun b => lastOf (go p b 0 ms)
theorem m_ends {ms : List Int} {p : Int} (h1 : ms.length ≤ 40) (h2 : ∀ m ∈ ms, -99 ≤ m ∧ m ≤ 99) (hp : 0 ≤ p ∧ p ≤ 9) : m_all_ends [.list (ms.map .int), .int p] = .rf ((sortI (Mset.uniq (endsL ms p))).map .int) := by
  refine fn_rf rfl ?_
  rw [tl0_all_ends, seq_nx (ρ' := [.d (.list (ms.map .int)), .d (.int p), .no]) (by simp [fnM0, fnM, sSeq, sIf, sRet, sRetN, sSet, sNil, sDrop, sPar, sPar3, sPar4, sUnp, sApp, sExt, sPut, sFrz, own, frz, nD, nO, nLst, e1, e2, nm, bnm, cst, bv, chE, andT, orT, notT, andV, orV, notV, ifE, cons', tupE, lstE, asB, M.call, ncall, lcall, flatR, flatD, Out.r, Out.s, R.bind, R.of, R.out, pickF, bName, bTup, bNames, itE, items, sFor, lcD, sBad, yes, m_look h1 h2 hp])]
  have key : lcL (bName 2) yes ce1_all_ends [.d (.list (ms.map .int)), .d (.int p), .no] (rng 0 (p + 1).toNat) = some ((endsL ms p).map .int) := by
    rw [rng_map, lcL_all (d := PyData.int) (β := fun b => [.d (.list (ms.map .int)), .d (.int p), .d (.int b)]) (F := fun b => .int (lastOf (go p b 0 ms)))]
    · simp [endsL, List.map_map, Function.comp_def]
    · intro b _
      refine ⟨rfl, ?_⟩
      have hl := go_len p ms b 0
      have hc : (go p b 0 ms).length + 1 ≤ 1000000 := by omega
      have hix : ixD (.list ((go p b 0 ms).map .int ++ [.int 0])) (.int ((ms.length : Int) - 1)) = some (.int (lastOf (go p b 0 ms))) := by
        cases hg : go p b 0 ms with
        | nil =>
          rw [hg] at hl
          simp at hl
          rw [← hl]
          rfl
        | cons x xs =>
          have hne : go p b 0 ms ≠ [] := by rw [hg]; simp
          rw [← hg]
          have e1' : ((ms.length : Int) - 1) = ((ms.length - 1 : Nat) : Int) := by
            rw [hg] at hl
            simp at hl
            omega
          have e3 : (go p b 0 ms).map PyData.int ++ [.int 0] = ((go p b 0 ms) ++ [0]).map .int := by simp
          rw [e1', e3, at_nat, List.getElem?_append_left (by rw [hg] at hl ⊢; simp at hl ⊢; omega), ← hl, ← List.getLast?_eq_getElem?, List.getLast?_eq_getLast hne]
          simp [lastOf, List.getLast?_eq_getLast hne]
      simp [ce1_all_ends, fnM0, fnM, sSeq, sIf, sRet, sRetN, sSet, sNil, sDrop, sPar, sPar3, sPar4, sUnp, sApp, sExt, sPut, sFrz, own, frz, nD, nO, nLst, e1, e2, nm, bnm, cst, bv, chE, andT, orT, notT, andV, orV, notV, ifE, cons', tupE, lstE, asB, M.call, ncall, lcall, flatR, flatD, Out.r, Out.s, R.bind, R.of, R.out, pickF, bName, bTup, bNames, itE, items, sFor, lcD, sBad, yes, m_go (show ms.length < 1000000 by omega), addD, hc, lenD_list, subD, hix]
  have h3 : (rng 0 (p + 1).toNat).length ≤ 1000000 := by simp [rng]; omega
  have c1 : -1000000000 ≤ p + 1 ∧ p + 1 ≤ 1000000000 := by omega
  have h4 : sortSetD (.list ((endsL ms p).map .int)) = some (.list ((sortI (Mset.uniq (endsL ms p))).map .int)) := by
    unfold sortSetD itemsInt
    dsimp only
    rw [ints_map]
    have : (endsL ms p).length < 64 := by simp [endsL]; omega
    simp [this]
  simp only [tl1_all_ends, sRetN, nL, e1, lcD, lcE, rg1, e2, bnm, cst, addD, R.bind, R.of, List.getElem?_cons_zero, List.getElem?_cons_succ, c1, and_self, if_true, h3, wip, List.set, R.out, key, h4]
end G
namespace G
open M PySem
theorem stays_ok {f : Rho → R Sl} {ρ : Rho} {xs : List D} (h : f ρ = .ok (.o xs)) (hl : xs.length < 1000000) (he : xs.all leaf = true) : staysE f ρ = .ok (.bool true) := by
  unfold staysE
  rw [h]
  simp only [hl, if_true, eqD_same he]
theorem leaf_ints (l : List Int) : (l.map PyData.int).all leaf = true := by simp [leaf]
def isTR : R D → Bool
  | .ok (.bool true) => true
  | _ => false
theorem isTR_eq {o : R D} (h : isTR o = true) : o = .ok (.bool true) := by
  unfold isTR at h
  split at h
  · rfl
  · cases h
theorem stays_of {f : Rho → R Sl} {ρ : Rho} {o : Out} (h : f ρ = o.s) (k : isTR (staysE (fun _ => o.s) []) = true) : staysE f ρ = .ok (.bool true) := by
  have e : staysE f ρ = staysE (fun _ => o.s) [] := by
    unfold staysE
    rw [h]
  rw [e]
  exact isTR_eq k
theorem c_chg : isTR (staysE (fun _ => (m_changes [.int 2, .tuple [.int 0, .int 1, .int 3, .int 2]]).s) []) = true := by decide +kernel
theorem c_way : isTR (staysE (fun _ => (m_way_on [.int 2, NT [0, 1, 3, 2], .list [.int 0, .int 3, .int 1]]).s) []) = true := by decide +kernel
theorem c_all : isTR (staysE (fun _ => (m_all_plates [.int 2, .int 4]).s) []) = true := by decide +kernel
theorem app_bool {i : Nat} {f : Rho → R D} {ρ : Rho} {xs : List D} (h : ρ[i]? = some (.o xs)) (hf : f ρ = .ok (.bool true)) (hl : xs.length < 1000000) : sApp i f ρ = .nx (ρ.set i (.o (xs ++ [.bool true]))) := by
  unfold sApp
  rw [h]
  simp only [hf, R.out, hl, if_true]
theorem law_mid {row ms : List Int} (h1 : 1 ≤ row.length) (h2 : row.length ≤ 40) (h3 : ∀ x ∈ row, 0 ≤ x ∧ x ≤ 3) (m1 : ms.length ≤ 40) (m2 : ∀ m ∈ ms, -99 ≤ m ∧ m ≤ 99) {A : Sl} :
    ∀ B, (∃ n, B = List.replicate n (PyData.bool true) ∧ n = 4) → tl6_law [.d SCR, A, .o B, .d (.tuple (row.map .int)), .d (.list (ms.map .int)), .d (.list [.int 0, .int 3, .int 1])] = tl12_law [.d SCR, A, .o (List.replicate 10 (PyData.bool true)), .d (.tuple (row.map .int)), .d (.list (ms.map .int)), .d (.list [.int 0, .int 3, .int 1])] := by
  rintro B ⟨n, rfl, rfl⟩
  have f1 := m_foll (p := 2) (b := 1) m1 m2 (by omega) (by omega)
  have f2 := m_ends (p := 2) m1 m2 (by omega)
  have f3 := m_lost (p := 2) (b := 1) m1 m2 (by omega) (by omega)
  have l1 := go_len 2 ms 1 0
  have l3 := lostL_len ms (go 2 1 0 ms) 0 0
  have l2 : (sortI (Mset.uniq (endsL ms 2))).length ≤ 3 := by
    rw [(sortI_perm _).length_eq]
    have := Mset.uniq_len (endsL ms 2)
    simp [endsL] at this
    exact this
  rw [tl6_law, seq_nx (app_bool rfl (stays_ok (xs := (go 2 1 0 ms).map .int) (by simp [ncall, cons', nm, cst, R.bind, f1, Out.s]) (by simp; omega) (leaf_ints _)) (by simp)),
    tl7_law, seq_nx (app_bool rfl (stays_ok (xs := (sortI (Mset.uniq (endsL ms 2))).map .int) (by simp [ncall, cons', nm, cst, R.bind, f2, Out.s]) (by simp; omega) (leaf_ints _)) (by simp)),
    tl8_law, seq_nx (app_bool rfl (stays_ok (xs := (lostL 0 0 ms (go 2 1 0 ms)).map .int) (by simp [ncall, cons', nm, cst, R.bind, f3, Out.s]) (by simp; omega) (leaf_ints _)) (by simp)),
    tl9_law, seq_nx (app_bool rfl (stays_of rfl c_chg) (by simp)),
    tl10_law, seq_nx (app_bool rfl (stays_of (by rfl) c_way) (by simp)),
    tl11_law, seq_nx (app_bool rfl (stays_of rfl c_all) (by simp))]
  rfl
theorem law_head {row ms : List Int} (h1 : 1 ≤ row.length) (h2 : row.length ≤ 40) (h3 : ∀ x ∈ row, 0 ≤ x ∧ x ≤ 3) (m1 : ms.length ≤ 40) (m2 : ∀ m ∈ ms, -99 ≤ m ∧ m ≤ 99) {A : Sl} :
    tl2_law [.d SCR, A, .no, .d (.tuple (row.map .int)), .d (.list (ms.map .int)), .d (.list [.int 0, .int 3, .int 1])] = tl6_law [.d SCR, A, .o (List.replicate 4 (PyData.bool true)), .d (.tuple (row.map .int)), .d (.list (ms.map .int)), .d (.list [.int 0, .int 3, .int 1])] := by
  have f1 := m_jumps' h1 h2 h3
  have f2 := m_bounces' h1 h2 h3
  obtain ⟨F, hF, f3⟩ := m_fit h1 h2 h3
  have f4 := m_settled' (m := 2) h1 h2 h3 (by omega)
  have l1 : (farL row).length ≤ 40 := Nat.le_trans (List.length_filter_le _ _) (by simp; omega)
  have l2 : (bncL row).length ≤ 40 := Nat.le_trans (List.length_filter_le _ _) (by simp; omega)
  have l3 : F.length ≤ 41 := by
    have := SC_len hF.inn.choose_spec.2
    have := hF.inn.choose_spec.1
    omega
  have l4 : (stl (fun j => row.getD j 0) 2 row.length).length ≤ 40 := by simp [stl]; omega
  have p1 : ([PyData.tuple (row.map .int)]).all plD = true := by simp [plD, flatD]
  have p3 : ((iz F).map PyData.int).all flatD = true := by simp [flatD]
  have g1 : staysE (ncall m_jumps (cons' (nm 3) (cst []))) [.d SCR, A, .no, .d (.tuple (row.map .int)), .d (.list (ms.map .int)), .d (.list [.int 0, .int 3, .int 1])] = .ok (.bool true) :=
    stays_ok (xs := (farL row).map .int) (by simp [ncall, cons', nm, cst, R.bind, f1, Out.s]) (by simp; omega) (leaf_ints _)
  rw [tl2_law, seq_nx (ρ' := [.d SCR, A, .o [.bool true], .d (.tuple (row.map .int)), .d (.list (ms.map .int)), .d (.list [.int 0, .int 3, .int 1])]) (by
      simp only [sSet, nLst, cons', g1, cst, R.bind]
      rfl),
    tl3_law, seq_nx (app_bool rfl (stays_ok (xs := (bncL row).map .int) (by simp [ncall, cons', nm, cst, R.bind, f2, Out.s]) (by simp; omega) (leaf_ints _)) (by simp)),
    tl4_law, seq_nx (app_bool rfl (stays_ok (xs := (iz F).map .int) (by
      simp only [fcall, cons', nm, cst, R.bind, List.set, List.getElem?_cons_zero, List.getElem?_cons_succ, p1, if_true, f3, p3]) (by simp [iz]; omega) (leaf_ints _)) (by simp)),
    tl5_law, seq_nx (app_bool rfl (stays_ok (xs := stl (fun j => row.getD j 0) 2 row.length) (by
      simp only [ncall, cons', nm, cst, R.bind, List.set, List.getElem?_cons_zero, List.getElem?_cons_succ]
      exact congrArg Out.s f4) (by omega) (stl_leaf _ _ _)) (by simp))]
  rfl
theorem law_true' {P : Int → Int → Int} (hP : Dr P) : m_law P [SCR] = .rt (.bool true) := by
  obtain ⟨row, h1, h2, h3, e⟩ := m_rough hP (a := 10) (m := 12) (by omega) (by omega)
  obtain ⟨ms, m1, m2, em⟩ := m_moves hP (a := 60) (by omega)
  have h2' : row.length ≤ 40 := by omega
  refine fn_rt rfl ?_
  show tl0_law P [.d SCR, .no, .no, .no, .no, .no] = _
  rw [tl0_law, seq_nx (ρ' := [.d SCR, .no, .no, .d (.tuple (row.map .int)), .d (.list (ms.map .int)), .d (.list [.int 0, .int 3, .int 1])]) (by simp [fnM0, fnM, sSeq, sIf, sRet, sRetN, sSet, sNil, sDrop, sPar, sPar3, sPar4, sUnp, sApp, sExt, sPut, sFrz, own, frz, nD, nO, nLst, e1, e2, nm, bnm, cst, bv, chE, andT, orT, notT, andV, orV, notV, ifE, cons', tupE, lstE, asB, M.call, ncall, lcall, flatR, flatD, Out.r, Out.s, R.bind, R.of, R.out, pickF, bName, bTup, bNames, itE, items, sFor, lcD, sBad, yes, e, em]),
    tl1_law, seq_nx (ρ' := [.d SCR, .d (.list (ms.map .int)), .no, .d (.tuple (row.map .int)), .d (.list (ms.map .int)), .d (.list [.int 0, .int 3, .int 1])]) (by simp [fnM0, fnM, sSeq, sIf, sRet, sRetN, sSet, sNil, sDrop, sPar, sPar3, sPar4, sUnp, sApp, sExt, sPut, sFrz, own, frz, nD, nO, nLst, e1, e2, nm, bnm, cst, bv, chE, andT, orT, notT, andV, orV, notV, ifE, cons', tupE, lstE, asB, M.call, ncall, lcall, flatR, flatD, Out.r, Out.s, R.bind, R.of, R.out, pickF, bName, bTup, bNames, itE, items, sFor, lcD, sBad, yes, listD]),
    law_head h1 h2' h3 (by omega) (fun m hm => by have := m2 m hm; omega), law_mid h1 h2' h3 (by omega) (fun m hm => by have := m2 m hm; omega) _ ⟨4, rfl, rfl⟩]
  have q1 : eqD (.list (List.replicate 10 (PyData.bool true))) (.list (List.replicate 10 (PyData.bool true))) = some true := eqD_same (by decide)
  have q2 : eqD (.list (ms.map .int)) (.list (ms.map .int)) = some true := eqD_same (leaf_ints ms)
  have q3 : eqD (.list [.int 0, .int 3, .int 1]) (.list [.int 0, .int 3, .int 1]) = some true := eqD_same (by decide)
  have q4 : mulD (.list [.bool true]) (.int 10) = some (.list (List.replicate 10 (PyData.bool true))) := rfl
  simp only [tl12_law, sRet, andV, bv, e2, lstE, cons', bnm, cst, R.bind, R.of, List.getElem?_cons_zero, List.getElem?_cons_succ, List.length_cons, List.length_nil, Nat.reduceLeDiff, if_true, q4, q1, q2, q3, R.out]
theorem law_true (ns : List Int) (hl : ns.length ≤ 63) : m_law (M.pick ns) [M.SCR] = .rt (.bool true) := law_true' (dr_pick ns)
end G
open PySem PySem.W PyProof.Rows
set_option maxHeartbeats 0 in
theorem PySem.Challenge.cw_turntracks_k71_whole_told_lists_holds : PySem.Challenge.rw_turntracks_k71_whole_told_lists.Holds := by
  w_on; o_law; k_head; (case hw => w_witness2)
  k_fill
  refine LamX.walk_ofTs (l := PySem.Challenge.rw_turntracks_k71_whole_told_lists) (n := 63) (k := 8) (x := "script") (CX := fun _ => L2.CX0) rfl (by decide) rfl ⟨rfl, by decide, by decide⟩ (fun w h Y => PySem.W.km_in_of Y) ?F (fun _ _ _ _ _ h => h)
  case F =>
    intro w mg fa h Y KX Gg hmg
    refine' G.all_mk KX Gg hmg ?a0 ?l0 ?e0 ?k0 ?a1 ?l1 ?e1 ?k1 ?a2 ?l2 ?e2 ?k2 ?a3 ?l3 ?e3 ?k3 ?a4 ?l4 ?e4 ?k4 ?a5 ?l5 ?e5 ?k5 ?a6 ?l6 ?e6 ?k6 ?a7 ?l7 ?e7 ?k7 ?a8 ?l8 ?e8 ?k8 ?a9 ?l9 ?e9 ?k9 ?a10 ?l10 ?e10 ?k10 ?a11 ?l11 ?e11 ?k11 ?a12 ?l12 ?e12 ?k12 ?a13 ?l13 ?e13 ?k13 ?a14 ?l14 ?e14 ?k14 ?a15 ?l15 ?e15 ?k15 ?a16 ?l16 ?e16 ?k16 ?a17 ?l17 ?e17 ?k17 ?a18 ?l18 ?e18 ?k18 ?a19 ?l19 ?e19 ?k19 ?a20 ?l20 ?e20 ?k20 ?a21 ?l21 ?e21 ?k21 ?a22 ?l22 ?e22 ?k22 ?a23 ?l23 ?e23 ?k23 ?a24 ?l24 ?e24 ?k24 ?a25 ?l25 ?e25 ?k25 ?a26 ?l26 ?e26 ?k26 ?a27 ?l27 ?e27 ?k27 ?z_all ?z_bool ?z_int ?z_isinstance ?z_len ?z_list ?z_max ?z_min ?z_range ?z_set ?z_sorted ?z_tuple ?z_zip ?c_ROUND ?h_ROUND ?c_LONGEST ?c_MOST_PLAY ?c_MOST_MOVES ?c_FARTHEST ?c_MOST_TRACKS ?hTP ?nTP ?cHd (fun ns hl => G.law_true ns hl)
    (case a0 => first | k_is | k_exc | kernel_rfl); (case l0 => first | k_is | k_exc | kernel_rfl); (case e0 => first | k_is | k_exc | kernel_rfl); (case k0 => first | k_is | k_exc | kernel_rfl); (case a1 => first | k_is | k_exc | kernel_rfl); (case l1 => first | k_is | k_exc | kernel_rfl); (case e1 => first | k_is | k_exc | kernel_rfl); (case k1 => first | k_is | k_exc | kernel_rfl); (case a2 => first | k_is | k_exc | kernel_rfl); (case l2 => first | k_is | k_exc | kernel_rfl); (case e2 => first | k_is | k_exc | kernel_rfl); (case k2 => first | k_is | k_exc | kernel_rfl); (case a3 => first | k_is | k_exc | kernel_rfl); (case l3 => first | k_is | k_exc | kernel_rfl); (case e3 => first | k_is | k_exc | kernel_rfl); (case k3 => first | k_is | k_exc | kernel_rfl); (case a4 => first | k_is | k_exc | kernel_rfl); (case l4 => first | k_is | k_exc | kernel_rfl); (case e4 => first | k_is | k_exc | kernel_rfl); (case k4 => first | k_is | k_exc | kernel_rfl); (case a5 => first | k_is | k_exc | kernel_rfl); (case l5 => first | k_is | k_exc | kernel_rfl); (case e5 => first | k_is | k_exc | kernel_rfl); (case k5 => first | k_is | k_exc | kernel_rfl); (case a6 => first | k_is | k_exc | kernel_rfl); (case l6 => first | k_is | k_exc | kernel_rfl); (case e6 => first | k_is | k_exc | kernel_rfl); (case k6 => first | k_is | k_exc | kernel_rfl); (case a7 => first | k_is | k_exc | kernel_rfl); (case l7 => first | k_is | k_exc | kernel_rfl); (case e7 => first | k_is | k_exc | kernel_rfl); (case k7 => first | k_is | k_exc | kernel_rfl); (case a8 => first | k_is | k_exc | kernel_rfl); (case l8 => first | k_is | k_exc | kernel_rfl); (case e8 => first | k_is | k_exc | kernel_rfl); (case k8 => first | k_is | k_exc | kernel_rfl); (case a9 => first | k_is | k_exc | kernel_rfl); (case l9 => first | k_is | k_exc | kernel_rfl); (case e9 => first | k_is | k_exc | kernel_rfl); (case k9 => first | k_is | k_exc | kernel_rfl); (case a10 => first | k_is | k_exc | kernel_rfl); (case l10 => first | k_is | k_exc | kernel_rfl); (case e10 => first | k_is | k_exc | kernel_rfl); (case k10 => first | k_is | k_exc | kernel_rfl); (case a11 => first | k_is | k_exc | kernel_rfl); (case l11 => first | k_is | k_exc | kernel_rfl); (case e11 => first | k_is | k_exc | kernel_rfl); (case k11 => first | k_is | k_exc | kernel_rfl); (case a12 => first | k_is | k_exc | kernel_rfl); (case l12 => first | k_is | k_exc | kernel_rfl); (case e12 => first | k_is | k_exc | kernel_rfl); (case k12 => first | k_is | k_exc | kernel_rfl); (case a13 => first | k_is | k_exc | kernel_rfl); (case l13 => first | k_is | k_exc | kernel_rfl); (case e13 => first | k_is | k_exc | kernel_rfl); (case k13 => first | k_is | k_exc | kernel_rfl); (case a14 => first | k_is | k_exc | kernel_rfl); (case l14 => first | k_is | k_exc | kernel_rfl); (case e14 => first | k_is | k_exc | kernel_rfl); (case k14 => first | k_is | k_exc | kernel_rfl); (case a15 => first | k_is | k_exc | kernel_rfl); (case l15 => first | k_is | k_exc | kernel_rfl); (case e15 => first | k_is | k_exc | kernel_rfl); (case k15 => first | k_is | k_exc | kernel_rfl); (case a16 => first | k_is | k_exc | kernel_rfl); (case l16 => first | k_is | k_exc | kernel_rfl); (case e16 => first | k_is | k_exc | kernel_rfl); (case k16 => first | k_is | k_exc | kernel_rfl); (case a17 => first | k_is | k_exc | kernel_rfl); (case l17 => first | k_is | k_exc | kernel_rfl); (case e17 => first | k_is | k_exc | kernel_rfl); (case k17 => first | k_is | k_exc | kernel_rfl); (case a18 => first | k_is | k_exc | kernel_rfl); (case l18 => first | k_is | k_exc | kernel_rfl); (case e18 => first | k_is | k_exc | kernel_rfl); (case k18 => first | k_is | k_exc | kernel_rfl); (case a19 => first | k_is | k_exc | kernel_rfl); (case l19 => first | k_is | k_exc | kernel_rfl); (case e19 => first | k_is | k_exc | kernel_rfl); (case k19 => first | k_is | k_exc | kernel_rfl); (case a20 => first | k_is | k_exc | kernel_rfl); (case l20 => first | k_is | k_exc | kernel_rfl); (case e20 => first | k_is | k_exc | kernel_rfl); (case k20 => first | k_is | k_exc | kernel_rfl); (case a21 => first | k_is | k_exc | kernel_rfl); (case l21 => first | k_is | k_exc | kernel_rfl); (case e21 => first | k_is | k_exc | kernel_rfl); (case k21 => first | k_is | k_exc | kernel_rfl); (case a22 => first | k_is | k_exc | kernel_rfl); (case l22 => first | k_is | k_exc | kernel_rfl); (case e22 => first | k_is | k_exc | kernel_rfl); (case k22 => first | k_is | k_exc | kernel_rfl); (case a23 => first | k_is | k_exc | kernel_rfl); (case l23 => first | k_is | k_exc | kernel_rfl); (case e23 => first | k_is | k_exc | kernel_rfl); (case k23 => first | k_is | k_exc | kernel_rfl); (case a24 => first | k_is | k_exc | kernel_rfl); (case l24 => first | k_is | k_exc | kernel_rfl); (case e24 => first | k_is | k_exc | kernel_rfl); (case k24 => first | k_is | k_exc | kernel_rfl); (case a25 => first | k_is | k_exc | kernel_rfl); (case l25 => first | k_is | k_exc | kernel_rfl); (case e25 => first | k_is | k_exc | kernel_rfl); (case k25 => first | k_is | k_exc | kernel_rfl); (case a26 => first | k_is | k_exc | kernel_rfl); (case l26 => first | k_is | k_exc | kernel_rfl); (case e26 => first | k_is | k_exc | kernel_rfl); (case k26 => first | k_is | k_exc | kernel_rfl); (case a27 => first | k_is | k_exc | kernel_rfl); (case l27 => first | k_is | k_exc | kernel_rfl); (case e27 => first | k_is | k_exc | kernel_rfl); (case k27 => first | k_is | k_exc | kernel_rfl); (case z_all => first | k_is | k_exc | kernel_rfl); (case z_bool => first | k_is | k_exc | kernel_rfl); (case z_int => first | k_is | k_exc | kernel_rfl); (case z_isinstance => first | k_is | k_exc | kernel_rfl); (case z_len => first | k_is | k_exc | kernel_rfl); (case z_list => first | k_is | k_exc | kernel_rfl); (case z_max => first | k_is | k_exc | kernel_rfl); (case z_min => first | k_is | k_exc | kernel_rfl); (case z_range => first | k_is | k_exc | kernel_rfl); (case z_set => first | k_is | k_exc | kernel_rfl); (case z_sorted => first | k_is | k_exc | kernel_rfl); (case z_tuple => first | k_is | k_exc | kernel_rfl); (case z_zip => first | k_is | k_exc | kernel_rfl); (case c_ROUND => first | k_is | k_exc | kernel_rfl); (case h_ROUND => first | k_is | k_exc | kernel_rfl); (case c_LONGEST => first | k_is | k_exc | kernel_rfl); (case c_MOST_PLAY => first | k_is | k_exc | kernel_rfl); (case c_MOST_MOVES => first | k_is | k_exc | kernel_rfl); (case c_FARTHEST => first | k_is | k_exc | kernel_rfl); (case c_MOST_TRACKS => first | k_is | k_exc | kernel_rfl)
    (case hTP => exact PySem.W.km_tabs_of Y _ List.mem_cons_self); (case nTP => kernel_rfl); (case cHd => kernel_rfl)
