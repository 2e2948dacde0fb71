import PyProof.Rows.All
import Wide.All
import OpenK.AllK
import Wide.FinOn
import HandS.ForMost
import HandS.Lambda
import HandS.Exc
import HandS.WordsExc
import HandS.Deep
import HandS.Zip
import HandS.Comp
import HandS.TupAny
import HandS.TupMul
import HandS.Style
import HandS.IsInst
import HandS.Conv
import HandS.SortInts
import HandS.Strs
import HandS.SetFor
import HandS.Flow
import PyProof.WalksMore
import HandS.SortRule
import KE.SortData
import HandS.HotCalls
import HandS.ExcIs
import HandS.EndTab
import KE.KNestM
import HandS.Nested
import KE.GoesEnum
import PySem.Challenge.RW_turntracks_k85_whole_plays_and_knobs
set_option Elab.async false
set_option linter.all false
set_option maxRecDepth 100000
namespace M
open PySem PySem.Spec PyProof.Rows L2

abbrev D := PyData
inductive R (α : Type) where
  | ok (a : α)
  | rz (c : Str)
  | bad
def R.bind {α β : Type} (r : R α) (f : α → R β) : R β := match r with
  | .ok a => f a
  | .rz c => .rz c
  | .bad => .bad
/-- the token that stands for the script -/
def SCR : D := .dict [(.none, .none)]

/-- a tuple of whose object it is known that it has no dict -/
def SqN (K : PySem.W.Frag) (G : Hp) (a : Addr) (xs : List V) : Prop := SqT K G a xs ∧ ((∃ o u, G a = some (.frz o u) ∧ o.cls = .type "tuple" ∧ o.dict = none) ∨ ∃ o, K.lookup a = some o ∧ o.cls = .type "tuple" ∧ o.dict = none)
/-- what a run knows from its start on: the script, and where the objects stand that have a number -/
structure Sc where
  l : List Int
  ad : Nat → Option Addr
/-- the token of the j-th object -/
abbrev OBJ (j : Nat) : D := .dict [(.bool false, .int j)]
mutual
inductive Q (K : PySem.W.Frag) (ns : Sc) (G : Hp) : V → D → Prop
  | non : Q K ns G .non .none
  | bl (b : Bool) : Q K ns G (.bl b) (.bool b)
  | int (i : Int) : Q K ns G (.int i) (.int i)
  | str (x : Str) : Q K ns G (.str x) (.str x)
  | lst {a : Addr} {xs : List V} {ds : List D} : G a = some (.lst xs) → QA K ns G xs ds → Q K ns G (.ref a) (.list ds)
  | tup {a : Addr} {xs : List V} {ds : List D} : SqT K G a xs → QA K ns G xs ds → Q K ns G (.ref a) (.tuple ds)
  | scr {a : Addr} : SqL K G a (ns.l.map V.int) → Q K ns G (.ref a) (.dict [(.none, .none)])
  | ntp {a : Addr} {ds : List D} (is : List Int) : SqN K G a (is.map V.int) → ds = is.map PyData.int → Q K ns G (.ref a) (.dict [(.bool true, .tuple ds)])
  | obj {a : Addr} {ds : List (D × D)} (j : Nat) : ns.ad j = some a → ds = [(.bool false, .int j)] → Q K ns G (.ref a) (.dict ds)
  | dk {a : Addr} {o : Obj} {ds : List (D × D)} (ks : List Int) : G a = some (.frz o (.dK (ks.map fun k => (Sum.inl k, V.bl true)))) → ds = ks.map (fun k => (.int k, .bool true)) → Q K ns G (.ref a) (.dict ds)
  | dt {a : Addr} {o : Obj} {ds : List (D × D)} (ks : List (List Int)) : G a = some (.frz o (.dT (ks.map fun k => (k.map Sum.inl, V.bl true)))) → ds = ks.map (fun k => (.tuple (k.map .int), .bool true)) → Q K ns G (.ref a) (.dict ds)
inductive QA (K : PySem.W.Frag) (ns : Sc) (G : Hp) : List V → List D → Prop
  | nil : QA K ns G [] []
  | cons {v : V} {vs : List V} {d : D} {ds : List D} : Q K ns G v d → QA K ns G vs ds → QA K ns G (v :: vs) (d :: ds)
end

theorem SqT.same {K : PySem.W.Frag} {H H' : Hp} {a : Addr} {xs : List V} (e : Same H H') (h : SqT K H a xs) : SqT K H' a xs := by
  rcases h with (h | ⟨o, h⟩) | h
  · exact .inl (.inl (e _ _ h))
  · exact .inl (.inr ⟨o, e _ _ h⟩)
  · exact .inr h

theorem SqN.same {K : PySem.W.Frag} {H H' : Hp} {a : Addr} {xs : List V} (e : Same H H') (h : SqN K H a xs) : SqN K H' a xs := by
  refine ⟨SqT.same e h.1, ?_⟩
  rcases h.2 with ⟨o, u, h1, h2⟩ | h
  · exact .inl ⟨o, u, e _ _ h1, h2⟩
  · exact .inr h
section
variable {K : PySem.W.Frag} {ns : Sc} {G G' : Hp}
mutual
theorem Q.mono (e : Same G G') : ∀ (d : D) (v : V), Q K ns G v d → Q K ns G' v d
  | .none, _, h => by cases h; exact .non
  | .bool _, _, h => by cases h; exact .bl _
  | .int _, _, h => by cases h; exact .int _
  | .str _, _, h => by cases h; exact .str _
  | .list ds, _, h => by cases h with | lst h1 h2 => exact .lst (e _ _ h1) (QA.mono e ds _ h2)
  | .tuple ds, _, h => by cases h with | tup h1 h2 => exact .tup (SqT.same e h1) (QA.mono e ds _ h2)
  | .dict _, _, h => by
    cases h with
    | scr h1 => exact .scr (e.seq h1)
    | ntp is h1 h2 => exact .ntp is (SqN.same e h1) h2
    | obj j h1 h2 => exact .obj j h1 h2
    | dk ks h1 h2 => exact .dk ks (e _ _ h1) h2
    | dt ks h1 h2 => exact .dt ks (e _ _ h1) h2
theorem QA.mono (e : Same G G') : ∀ (ds : List D) (vs : List V), QA K ns G vs ds → QA K ns G' vs ds
  | [], _, h => by cases h; exact .nil
  | d :: ds, _, h => by cases h with | cons h1 h2 => exact .cons (Q.mono e d _ h1) (QA.mono e ds _ h2)
end
theorem QA.length : ∀ {ds : List D} {vs : List V}, QA K ns G vs ds → vs.length = ds.length
  | [], _, h => by cases h; rfl
  | d :: ds, _, h => by cases h with | cons h1 h2 => simp [QA.length h2]
theorem QA.get : ∀ {ds : List D} {vs : List V} {i : Nat} {d : D}, QA K ns G vs ds → ds[i]? = some d → ∃ v, vs[i]? = some v ∧ Q K ns G v d
  | [], _, _, _, h, e => by simp at e
  | d :: ds, _, 0, _, h, e => by
    cases h with
    | cons h1 h2 => simp at e; subst e; exact ⟨_, rfl, h1⟩
  | d :: ds, _, i + 1, _, h, e => by
    cases h with
    | cons h1 h2 => exact QA.get (i := i) h2 (by simpa using e)
theorem QA.append : ∀ {ds es : List D} {vs us : List V}, QA K ns G vs ds → QA K ns G us es → QA K ns G (vs ++ us) (ds ++ es)
  | [], _, _, _, h, k => by cases h; exact k
  | d :: ds, _, _, _, h, k => by cases h with | cons h1 h2 => exact .cons h1 (QA.append h2 k)
theorem QA.drop : ∀ (n : Nat) {ds : List D} {vs : List V}, QA K ns G vs ds → QA K ns G (vs.drop n) (ds.drop n)
  | 0, _, _, h => h
  | n + 1, [], _, h => by cases h; exact .nil
  | n + 1, d :: ds, _, h => by cases h with | cons h1 h2 => exact QA.drop n h2
theorem QA.take : ∀ (n : Nat) {ds : List D} {vs : List V}, QA K ns G vs ds → QA K ns G (vs.take n) (ds.take n)
  | 0, _, _, h => .nil
  | n + 1, [], _, h => by cases h; exact .nil
  | n + 1, d :: ds, _, h => by cases h with | cons h1 h2 => exact .cons h1 (QA.take n h2)
theorem QA.set : ∀ (n : Nat) {ds : List D} {vs : List V} {v : V} {d : D}, QA K ns G vs ds → Q K ns G v d → QA K ns G (vs.set n v) (ds.set n d)
  | _, [], _, _, _, h, _ => by cases h; exact .nil
  | 0, d :: ds, _, _, _, h, k => by cases h with | cons h1 h2 => exact .cons k h2
  | n + 1, d :: ds, _, _, _, h, k => by cases h with | cons h1 h2 => exact .cons h1 (QA.set n h2 k)
theorem QA.rev {ds : List D} {vs : List V} (h : QA K ns G vs ds) : QA K ns G vs.reverse ds.reverse := by
  induction ds generalizing vs with
  | nil => cases h; exact .nil
  | cons d ds ih =>
    cases h with
    | cons h1 h2 =>
      rw [List.reverse_cons, List.reverse_cons]
      exact (ih h2).append (.cons h1 .nil)
theorem QA.ints {is : List Int} : QA K ns G (is.map V.int) (is.map PyData.int) := by
  induction is with
  | nil => exact .nil
  | cons i is ih => exact .cons (.int i) ih
end

/-! ### heaps -/
/-- what is frozen is there -/
def Sub (G H : Hp) : Prop := ∀ b o, G b = some o → H b = some o ∧ ∀ ps, o ≠ .tbl ps
/-- from which line on the law itself stands (0 is put in where the layer is joined) -/
def lawLine : Int := 0
/-- what the lambda at a place is called -/
def qof (p : Pos) : Str := if p.line < lawLine then "_law_done.<locals>.<lambda>" else "law.<locals>.<lambda>"
/-- the table at P: each code object that it tells bears the name of its place -/
def TabQ (H : Hp) (P : Addr) : Prop := ∃ ps : Array Value, H P = some (.tbl ps) ∧ TriplesOk ps.toList ∧ ∀ (pos : Pos) (cv : Value), codeAmong pos ps.toList = some cv → ∃ c, cv = .ref c ∧ H c = some (LamX.CodeO c (qof pos))
theorem TabQ.ext {H H' : Hp} {P : Addr} (t : TabQ H P) (e : ∀ b o, H b = some o → H' b = some o) : TabQ H' P := by
  obtain ⟨ps, h1, h2, h3⟩ := t
  exact ⟨ps, e _ _ h1, h2, fun pos cv hc => by
    obtain ⟨c, e1, e2⟩ := h3 pos cv hc
    exact ⟨c, e1, e _ _ e2⟩⟩
theorem TabQ.nil {H : Hp} {P : Addr} (h : H P = some (.tbl #[])) : TabQ H P := ⟨#[], h, True.intro, fun pos cv hc => by
  have z : codeAmong pos [] = some cv := hc
  simp [codeAmong] at z⟩
structure Ex (H H' : Hp) : Prop where
  keep : LamX.ExtN H H'
  tabs : ∀ T, TabQ H T → TabQ H' T
theorem Ex.of {H H' : Hp} (e : Same H H') : Ex H H' := ⟨LamX.ExtN.of e, fun _ t => t.ext e⟩
theorem Ex.refl (H : Hp) : Ex H H := .of (Same.refl H)
theorem Ex.trans {H H1 H2 : Hp} (a : Ex H H1) (b : Ex H1 H2) : Ex H H2 := ⟨a.keep.trans b.keep, fun T t => b.tabs T (a.tabs T t)⟩
theorem Sub.ex {G H H' : Hp} (s : Sub G H) (e : Ex H H') : Sub G H' := fun b o h => ⟨e.keep b o (s b o h).1 (s b o h).2, (s b o h).2⟩
theorem Sub.same {G H : Hp} (s : Sub G H) : Same G H := fun b o h => (s b o h).1
theorem Sub.free {G H : Hp} (s : Sub G H) {p : Addr} (h : H p = none) : G p = none := s.same.free h
theorem new_same {H : Hp} {p : Addr} {o : HO} (h : H p = none) : Same H (upd H p o) := fun b x e => by
  rw [upd_ne (ne_of_none e h)]
  exact e
structure Gr (G H G' H' : Hp) : Prop where
  g : Same G G'
  h : Ex H H'
  s : Sub G' H'
  n : ∀ a o, H a = some o → (∀ ps, o ≠ .tbl ps) → G a = none → G' a = none
theorem Gr.refl {G H : Hp} (s : Sub G H) : Gr G H G H := ⟨Same.refl G, Ex.refl H, s, fun _ _ _ _ h => h⟩
theorem Gr.trans {G H G1 H1 G2 H2 : Hp} (a : Gr G H G1 H1) (b : Gr G1 H1 G2 H2) : Gr G H G2 H2 :=
  ⟨a.g.trans b.g, a.h.trans b.h, b.s, fun x o hx ht gx => b.n x o (a.h.keep x o hx ht) ht (a.n x o hx ht gx)⟩
/-- a new object, frozen at once -/
theorem Gr.new {G H : Hp} {p : Addr} {o : HO} (s : Sub G H) (hp : H p = none) (ho : ∀ ps, o ≠ .tbl ps) : Gr G H (upd G p o) (upd H p o) :=
  ⟨new_same (s.free hp), .of (new_same hp), fun b u e => by
    by_cases hb : b = p
    · subst hb
      rw [upd_same] at e ⊢
      cases e
      exact ⟨rfl, ho⟩
    · rw [upd_ne hb] at e ⊢
      exact s b u e, fun a u ha _ ga => by rw [upd_ne (ne_of_none ha hp)]; exact ga⟩
/-- a new object, not frozen -/
theorem Gr.own {G H : Hp} {p : Addr} {o : HO} (s : Sub G H) (hp : H p = none) : Gr G H G (upd H p o) :=
  ⟨Same.refl G, .of (new_same hp), s.ex (.of (new_same hp)), fun _ _ _ _ ga => ga⟩
theorem nt_lst {xs : List V} (ps : Array Value) : HO.lst xs ≠ .tbl ps := fun z => nomatch z
theorem nt_tup {xs : List V} (ps : Array Value) : HO.tup xs ≠ .tbl ps := fun z => nomatch z

/-! ### slots -/
inductive Sl where
  | no
  | d (x : D)
  | o (xs : List D)
abbrev Rho := List Sl
structure Cm where
  ns : Sc
  G0 : Hp
  H0 : Hp
/-- not of those that stood at the entry -/
def Nw (H0 : Hp) (a : Addr) : Prop := ∀ o, H0 a = some o → (∀ ps, o ≠ .tbl ps) → False
section
variable (K : PySem.W.Frag) (c : Cm)
def SlOk (G H : Hp) : Sl → Option (Option V) → Prop
  | .no, _ => True
  | .d x, v => ∃ u, v = some (some u) ∧ Q K c.ns G u x
  | .o xs, v => ∃ a us, v = some (some (.ref a)) ∧ H a = some (.lst us) ∧ G a = none ∧ Nw c.H0 a ∧ QA K c.ns G us xs
structure Ok (G H : Hp) (ρ : Rho) (σ : L2.St) : Prop where
  s : Sub G H
  e : Gr c.G0 c.H0 G H
  len : ρ.length = σ.length
  sl : ∀ (i : Nat) (x : Sl), ρ[i]? = some x → SlOk K c G H x σ[i]?
  dj : ∀ (i j : Nat) (a : Addr) (xs ys : List D), ρ[i]? = some (.o xs) → ρ[j]? = some (.o ys) → σ[i]? = some (some (.ref a)) → σ[j]? = some (some (.ref a)) → i = j
end
section
variable {K : PySem.W.Frag} {c : Cm} {G H G' H' : Hp} {ρ : Rho} {σ : L2.St}
theorem SlOk.gr {x : Sl} {v : Option (Option V)} (h : SlOk K c G H x v) (g : Gr G H G' H') : SlOk K c G' H' x v := by
  cases x with
  | no => trivial
  | d x =>
    obtain ⟨u, e, q⟩ := h
    exact ⟨u, e, Q.mono g.g _ _ q⟩
  | o xs =>
    obtain ⟨a, us, e, ha, ga, h0, q⟩ := h
    exact ⟨a, us, e, g.h.keep a _ ha nt_lst, g.n a _ ha nt_lst ga, h0, QA.mono g.g _ _ q⟩
theorem Ok.gr (h : Ok K c G H ρ σ) (g : Gr G H G' H') : Ok K c G' H' ρ σ :=
  ⟨g.s, h.e.trans g, h.len, fun i x e => (h.sl i x e).gr g, h.dj⟩
theorem Ok.lt (h : Ok K c G H ρ σ) {i : Nat} {x : Sl} (e : ρ[i]? = some x) : i < σ.length := by
  rw [← h.len]
  exact (List.getElem?_eq_some_iff.mp e).1
/-- a slot takes data -/
theorem Ok.setD (h : Ok K c G H ρ σ) (i : Nat) {v : V} {d : D} (q : Q K c.ns G v d) : Ok K c G H (ρ.set i (.d d)) (σ.set i (some v)) := by
  refine ⟨h.s, h.e, by simp [h.len], fun j x e => ?_, fun j k a xs ys e1 e2 e3 e4 => ?_⟩
  · by_cases hj : i = j
    · subst hj
      by_cases hl : i < ρ.length
      · rw [List.getElem?_set_self hl] at e
        cases e
        rw [List.getElem?_set_self (by rw [← h.len]; exact hl)]
        exact ⟨v, rfl, q⟩
      · rw [List.getElem?_eq_none (by simp; omega)] at e
        cases e
    · rw [List.getElem?_set_ne hj] at e ⊢
      exact h.sl j x e
  · have n1 : i ≠ j := fun z => by
      subst z
      by_cases hl : i < ρ.length
      · rw [List.getElem?_set_self hl] at e1; cases e1
      · rw [List.getElem?_eq_none (by simp; omega)] at e1; cases e1
    have n2 : i ≠ k := fun z => by
      subst z
      by_cases hl : i < ρ.length
      · rw [List.getElem?_set_self hl] at e2; cases e2
      · rw [List.getElem?_eq_none (by simp; omega)] at e2; cases e2
    rw [List.getElem?_set_ne n1] at e1 e3
    rw [List.getElem?_set_ne n2] at e2 e4
    exact h.dj j k a xs ys e1 e2 e3 e4
/-- a slot takes a new list of its own -/
theorem Ok.setO (h : Ok K c G H ρ σ) (i : Nat) {p : Addr} {us : List V} {ds : List D} (hp : H p = none) (q : QA K c.ns G us ds) :
    Ok K c G (upd H p (.lst us)) (ρ.set i (.o ds)) (σ.set i (some (.ref p))) := by
  have hg : Gr G H G (upd H p (.lst us)) := Gr.own h.s hp
  have h1 := h.gr hg
  have h0 : Nw c.H0 p := fun o z ht => by
    rw [h.e.h.keep p o z ht] at hp
    cases hp
  refine ⟨h1.s, h1.e, by simp [h.len], fun j x e => ?_, fun j k a xs ys e1 e2 e3 e4 => ?_⟩
  · by_cases hj : i = j
    · subst hj
      by_cases hl : i < ρ.length
      · rw [List.getElem?_set_self hl] at e
        cases e
        rw [List.getElem?_set_self (by rw [← h.len]; exact hl)]
        exact ⟨p, us, rfl, upd_same, h.s.free hp, h0, q⟩
      · rw [List.getElem?_eq_none (by simp; omega)] at e
        cases e
    · rw [List.getElem?_set_ne hj] at e ⊢
      exact h1.sl j x e
  · have old : ∀ j xs a, i ≠ j → ρ[j]? = some (.o xs) → σ[j]? = some (some (.ref a)) → a ≠ p := fun j xs a _ e1 e2 z => by
      obtain ⟨b, us', e, hb, _⟩ := h.sl j _ e1
      rw [e2] at e
      cases e
      subst z
      rw [hp] at hb; cases hb
    by_cases hj : i = j
    · by_cases hk : i = k
      · omega
      · subst hj
        rw [List.getElem?_set_ne hk] at e2 e4
        have := old k ys a hk e2 e4
        by_cases hl : i < σ.length
        · rw [List.getElem?_set_self hl] at e3
          cases e3
          exact absurd rfl this
        · rw [List.getElem?_eq_none (by simp; omega)] at e3; cases e3
    · rw [List.getElem?_set_ne hj] at e1 e3
      by_cases hk : i = k
      · subst hk
        have := old j xs a hj e1 e3
        by_cases hl : i < σ.length
        · rw [List.getElem?_set_self hl] at e4
          cases e4
          exact absurd rfl this
        · rw [List.getElem?_eq_none (by simp; omega)] at e4; cases e4
      · rw [List.getElem?_set_ne hk] at e2 e4
        exact h.dj j k a xs ys e1 e2 e3 e4
end
end M

namespace M
open PySem PySem.Spec PyProof.Rows L2

theorem PE.imp {X : Cx} {e : Expr} {t t' : TE} (h : PE X e t) (i : ∀ σ H Q, t' σ H Q → t σ H Q) : PE X e t' := ⟨fun pins s σ H Q I hw => h.run pins s σ H Q I (i σ H Q hw)⟩
theorem PT.imp {X : Cx} {e : Expr} {t t' : TT} (h : PT X e t) (i : ∀ σ H Q, t' σ H Q → t σ H Q) : PT X e t' := ⟨fun pins s σ H Q I hw => h.run pins s σ H Q I (i σ H Q hw)⟩
theorem PW.imp {X : Cx} {e : Expr} {t t' : TT} (h : PW X e t) (i : ∀ σ H Q, t' σ H Q → t σ H Q) : PW X e t' := ⟨fun wh pins s σ H Q I hw => h.run wh pins s σ H Q I (i σ H Q hw)⟩
theorem PA.imp {X : Cx} {e : List Expr} {t t' : TA} (h : PA X e t) (i : ∀ σ H Q, t' σ H Q → t σ H Q) : PA X e t' := ⟨fun p pins s σ H Q I hw => h.run p pins s σ H Q I (i σ H Q hw)⟩
theorem PS.imp {X : Cx} {e : Stmt} {t t' : TS} (h : PS X e t) (i : ∀ D σ H, t' D σ H → t D σ H) : PS X e t' := ⟨fun pins s σ H Q I hw => h.run pins s σ H Q I (i Q σ H hw)⟩
theorem PSs.imp {X : Cx} {e : List Stmt} {t t' : TS} (h : PSs X e t) (i : ∀ D σ H, t' D σ H → t D σ H) : PSs X e t' := ⟨fun pins s σ H Q I hw => h.run pins s σ H Q I (i Q σ H hw)⟩

abbrev WM := Str → L2.St → Hp → Prop
/-- nothing may be raised -/
abbrev W0 : WM := fun _ _ _ => False

def B (K : PySem.W.Frag) (ns : Sc) (G H : Hp) (v : V) (d : D) : Prop := Q K ns G v d ∨ ∃ a us ds, v = .ref a ∧ d = .list ds ∧ H a = some (.lst us) ∧ QA K ns G us ds
inductive BA (K : PySem.W.Frag) (ns : Sc) (G H : Hp) : List V → List D → Prop
  | nil : BA K ns G H [] []
  | cons {v : V} {vs : List V} {d : D} {ds : List D} : B K ns G H v d → BA K ns G H vs ds → BA K ns G H (v :: vs) (d :: ds)
section
variable {K : PySem.W.Frag} {ns : Sc} {G H G' H' : Hp}
theorem B.gr {v : V} {d : D} (h : B K ns G H v d) (g : Gr G H G' H') : B K ns G' H' v d := by
  rcases h with h | ⟨a, us, ds, e1, e2, e3, e4⟩
  · exact .inl (Q.mono g.g _ _ h)
  · exact .inr ⟨a, us, ds, e1, e2, g.h.keep a _ e3 nt_lst, QA.mono g.g _ _ e4⟩
theorem BA.gr {vs : List V} {ds : List D} (h : BA K ns G H vs ds) (g : Gr G H G' H') : BA K ns G' H' vs ds := by
  induction h with
  | nil => exact .nil
  | cons h _ ih => exact .cons (h.gr g) ih
theorem B.int {v : V} {i : Int} (h : B K ns G H v (.int i)) : v = .int i := by
  rcases h with h | ⟨a, us, ds, e1, e2, _⟩
  · cases h; rfl
  · cases e2
theorem B.bool {v : V} {b : Bool} (h : B K ns G H v (.bool b)) : v = .bl b := by
  rcases h with h | ⟨a, us, ds, e1, e2, _⟩
  · cases h; rfl
  · cases e2
theorem B.str {v : V} {x : Str} (h : B K ns G H v (.str x)) : v = .str x := by
  rcases h with h | ⟨a, us, ds, e1, e2, _⟩
  · cases h; rfl
  · cases e2
theorem B.none {v : V} (h : B K ns G H v .none) : v = .non := by
  rcases h with h | ⟨a, us, ds, e1, e2, _⟩
  · cases h; rfl
  · cases e2
theorem B.list {v : V} {ds : List D} (s : Sub G H) (h : B K ns G H v (.list ds)) : ∃ a us, v = .ref a ∧ H a = some (.lst us) ∧ QA K ns G us ds := by
  rcases h with h | ⟨a, us, ds', e1, e2, e3, e4⟩
  · cases h with | lst h1 h2 => exact ⟨_, _, rfl, (s _ _ h1).1, h2⟩
  · cases e2; exact ⟨a, us, e1, e3, e4⟩
theorem B.tuple {v : V} {ds : List D} (s : Sub G H) (h : B K ns G H v (.tuple ds)) : ∃ a us, v = .ref a ∧ SqT K H a us ∧ QA K ns G us ds ∧ SqT K G a us := by
  rcases h with h | ⟨a, us, ds', e1, e2, e3, e4⟩
  · cases h with | tup h1 h2 => exact ⟨_, _, rfl, SqT.same s.same h1, h2, h1⟩
  · cases e2
end

section
variable (K : PySem.W.Frag) (c : Cm) (W : WM)
def Post {α β : Type} (Rel : Hp → Hp → β → α → Prop) (G H : Hp) (σ : L2.St) (Qk : β → Hp → Prop) : R α → Prop
  | .ok a => ∀ G' H' v, Gr G H G' H' → Rel G' H' v a → Qk v H'
  | .rz z => ∀ G' H', Gr G H G' H' → W z σ H'
  | .bad => False
def tR {α β : Type} (Rel : Hp → Hp → β → α → Prop) (f : Rho → R α) : L2.St → Hp → (β → Hp → Prop) → Prop := fun σ H Qk => ∃ G ρ, Ok K c G H ρ σ ∧ Post W Rel G H σ Qk (f ρ)
end
abbrev RelQ (K : PySem.W.Frag) (ns : Sc) : Hp → Hp → V → D → Prop := fun G _ v d => Q K ns G v d
abbrev RelB (K : PySem.W.Frag) (ns : Sc) : Hp → Hp → V → D → Prop := fun G H v d => B K ns G H v d
abbrev RelQA (K : PySem.W.Frag) (ns : Sc) : Hp → Hp → List V → List D → Prop := fun G _ v d => QA K ns G v d
abbrev RelBA (K : PySem.W.Frag) (ns : Sc) : Hp → Hp → List V → List D → Prop := fun G H v d => BA K ns G H v d
abbrev RelT : Hp → Hp → Bool → Bool → Prop := fun _ _ b b' => b = b'
abbrev ME (X : Cx) (c : Cm) (W : WM) (e : Expr) (f : Rho → R D) : Prop := PE X e (tR X.K c W (RelQ X.K c.ns) f)
abbrev MB (X : Cx) (c : Cm) (W : WM) (e : Expr) (f : Rho → R D) : Prop := PE X e (tR X.K c W (RelB X.K c.ns) f)
abbrev MA (X : Cx) (c : Cm) (W : WM) (e : List Expr) (f : Rho → R (List D)) : Prop := PA X e (tR X.K c W (RelQA X.K c.ns) f)
abbrev MBA (X : Cx) (c : Cm) (W : WM) (e : List Expr) (f : Rho → R (List D)) : Prop := PA X e (tR X.K c W (RelBA X.K c.ns) f)
abbrev MT (X : Cx) (c : Cm) (W : WM) (e : Expr) (f : Rho → R Bool) : Prop := PT X e (tR X.K c W RelT f)
abbrev MW (X : Cx) (c : Cm) (W : WM) (e : Expr) (f : Rho → R Bool) : Prop := PW X e (tR X.K c W RelT f)

section
variable {K : PySem.W.Frag} {c : Cm} {W : WM} {G H G' H' : Hp} {σ : L2.St} {ρ : Rho} {α β γ δ : Type} {Rel : Hp → Hp → β → α → Prop} {Rel2 : Hp → Hp → δ → γ → Prop}
theorem Post.gr {Qk : β → Hp → Prop} {r : R α} (h : Post W Rel G H σ Qk r) (g : Gr G H G' H') : Post W Rel G' H' σ Qk r := by
  cases r with
  | ok a => exact fun G2 H2 v g2 q => h G2 H2 v (g.trans g2) q
  | rz z => exact fun G2 H2 g2 => h G2 H2 (g.trans g2)
  | bad => exact h
theorem step {f : Rho → R α} {F : α → R γ} {Qk : δ → Hp → Prop} {k : β → Hp → Prop} (ok : Ok K c G H ρ σ) (h : Post W Rel2 G H σ Qk ((f ρ).bind F))
    (hk : ∀ a G' H' v, f ρ = .ok a → Gr G H G' H' → Rel G' H' v a → Ok K c G' H' ρ σ → Post W Rel2 G' H' σ Qk (F a) → k v H') : tR K c W Rel f σ H k := by
  refine ⟨G, ρ, ok, ?_⟩
  cases e : f ρ with
  | ok a =>
    rw [e] at h
    exact fun G' H' v g r => hk a G' H' v e g r (ok.gr g) (Post.gr (r := F a) h g)
  | rz z => rw [e] at h; exact h
  | bad => rw [e] at h; exact h.elim
/-- the last one, handing on its answer -/
theorem stepL {f : Rho → R α} {Qk : δ → Hp → Prop} {k : β → Hp → Prop} {T : α → γ} (ok : Ok K c G H ρ σ) (h : Post W Rel2 G H σ Qk ((f ρ).bind fun a => .ok (T a)))
    (hk : ∀ a G' H' v, f ρ = .ok a → Gr G H G' H' → Rel G' H' v a → Ok K c G' H' ρ σ → (∀ u, Rel2 G' H' u (T a) → Qk u H') → k v H') : tR K c W Rel f σ H k :=
  step ok h fun a G' H' v e g r ok' h' => hk a G' H' v e g r ok' fun u ru => h' G' H' u (Gr.refl ok'.s) ru
end

/-! ### names, constants -/
def nm (i : Nat) : Rho → R D := fun ρ => match ρ[i]? with
  | some (.d x) => .ok x
  | _ => .bad
def bnm (i : Nat) : Rho → R D := fun ρ => match ρ[i]? with
  | some (.d x) => .ok x
  | some (.o xs) => .ok (.list xs)
  | _ => .bad
def cst {α : Type} (x : α) : Rho → R α := fun _ => .ok x
def R.of {α : Type} : Option α → R α
  | some a => .ok a
  | none => .bad
section
variable {X : Cx} {c : Cm} {W : WM}
theorem me_name (i : Nat) {e : Expr} (h : PE X e (tVar i)) : ME X c W e (nm i) := PE.imp h fun σ H Qk ⟨G, ρ, ok, p⟩ => by
  unfold nm at p
  cases e1 : ρ[i]? with
  | none => rw [e1] at p; exact p.elim
  | some x =>
    cases x with
    | no => rw [e1] at p; exact p.elim
    | o xs => rw [e1] at p; exact p.elim
    | d x =>
      rw [e1] at p
      obtain ⟨u, e2, q⟩ := ok.sl i _ e1
      exact ⟨u, e2, p G H u (Gr.refl ok.s) q⟩
theorem mb_name (i : Nat) {e : Expr} (h : PE X e (tVar i)) : MB X c W e (bnm i) := PE.imp h fun σ H Qk ⟨G, ρ, ok, p⟩ => by
  unfold bnm at p
  cases e1 : ρ[i]? with
  | none => rw [e1] at p; exact p.elim
  | some x =>
    cases x with
    | no => rw [e1] at p; exact p.elim
    | o xs =>
      rw [e1] at p
      obtain ⟨a, us, e2, ha, _, _, q⟩ := ok.sl i _ e1
      exact ⟨_, e2, p G H _ (Gr.refl ok.s) (.inr ⟨a, us, xs, rfl, rfl, ha, q⟩)⟩
    | d x =>
      rw [e1] at p
      obtain ⟨u, e2, q⟩ := ok.sl i _ e1
      exact ⟨u, e2, p G H u (Gr.refl ok.s) (.inl q)⟩
theorem mb {e : Expr} {f : Rho → R D} (h : ME X c W e f) : MB X c W e f := PE.imp h fun σ H Qk ⟨G, ρ, ok, p⟩ => ⟨G, ρ, ok, by
  cases e : f ρ with
  | ok a => rw [e] at p; exact fun G' H' v g q => p G' H' v g (.inl q)
  | rz z => rw [e] at p; exact p
  | bad => rw [e] at p; exact p⟩
theorem me_cst {e : Expr} {v : V} {d : D} (h : PE X e (tC v)) (q : ∀ G, Q X.K c.ns G v d) : ME X c W e (cst d) := PE.imp h fun σ H Qk ⟨G, ρ, ok, p⟩ => p G H v (Gr.refl ok.s) (q G)
theorem me_int {i j pos} : ME X c W (.Constant (.int i) j pos) (cst (.int i)) := me_cst pe_int fun _ => .int i
theorem me_bl {b j pos} : ME X c W (.Constant (.bool b) j pos) (cst (.bool b)) := me_cst pe_bl fun _ => .bl b
theorem me_non {j pos} : ME X c W (.Constant .none j pos) (cst .none) := me_cst pe_non fun _ => .non
theorem me_str {x j pos} : ME X c W (.Constant (.str x) j pos) (cst (.str x)) := me_cst pe_str fun _ => .str x

/-! ### operators -/
def e2 {α β γ : Type} (o : α → β → Option γ) (f : Rho → R α) (g : Rho → R β) : Rho → R γ := fun ρ => (f ρ).bind fun x => (g ρ).bind fun y => R.of (o x y)
def e1 {α β : Type} (o : α → Option β) (f : Rho → R α) : Rho → R β := fun ρ => (f ρ).bind fun x => R.of (o x)
def OpD (X : Cx) (ns : Sc) (r : R2) (o : D → D → Option D) : Prop := ∀ (G H : Hp) (v w : V) (x y d : D) (Qk : VK), o x y = some d → Sub G H → B X.K ns G H v x → B X.K ns G H w y → (∀ G' H' u, Gr G H G' H' → Q X.K ns G' u d → Qk u H') → r v w H Qk
def CmD (X : Cx) (ns : Sc) (r : R2) (o : D → D → Option Bool) : Prop := ∀ (G H : Hp) (v w : V) (x y : D) (b : Bool) (Qk : VK), o x y = some b → Sub G H → B X.K ns G H v x → B X.K ns G H w y → (∀ G' H', Gr G H G' H' → Qk (.bl b) H') → r v w H Qk
theorem me_op {op : Operator} {r : R2} {o : D → D → Option D} {a b : Expr} {f g : Rho → R D} {pos : Pos} (ho : OpR X (binaryOp op) r) (hr : OpD X c.ns r o) (ha : MB X c W a f) (hb : MB X c W b g) : ME X c W (.BinOp a op b pos) (e2 o f g) :=
  PE.imp (pe_op ho ha hb) fun σ H Qk ⟨G, ρ, ok, p⟩ => step ok p fun x G1 H1 v _ g1 r1 ok1 p1 => step ok1 p1 fun y G2 H2 w _ g2 r2 ok2 p2 => by
    cases e : o x y with
    | none => rw [e] at p2; exact p2.elim
    | some d =>
      rw [e] at p2
      exact hr G2 H2 v w x y d Qk e ok2.s (r1.gr g2) r2 p2
theorem me_ix {r : R2} {o : D → D → Option D} {a b : Expr} {f g : Rho → R D} {pos : Pos} (ho : IxR X r) (hr : OpD X c.ns r o) (ha : MB X c W a f) (hb : MB X c W b g) (hs : PlainIx b) : ME X c W (.Subscript a b pos) (e2 o f g) :=
  PE.imp (pe_ix ho ha hb hs) fun σ H Qk ⟨G, ρ, ok, p⟩ => step ok p fun x G1 H1 v _ g1 r1 ok1 p1 => step ok1 p1 fun y G2 H2 w _ g2 r2 ok2 p2 => by
    cases e : o x y with
    | none => rw [e] at p2; exact p2.elim
    | some d =>
      rw [e] at p2
      exact hr G2 H2 v w x y d Qk e ok2.s (r1.gr g2) r2 p2
theorem mt_cmp {op : CmpOp} {r : R2} {o : D → D → Option Bool} {a b : Expr} {f g : Rho → R D} {pos : Pos} (ho : OpR X (compareOp op) r) (hr : CmD X c.ns r o) (ha : MB X c W a f) (hb : MB X c W b g) (hm : behindInMarks op b = false) : MT X c W (.Compare a [op] [b] pos) (e2 o f g) :=
  PT.imp (pt_cmpR ho ha hb hm) fun σ H Qk ⟨G, ρ, ok, p⟩ => step ok p fun x G1 H1 v _ g1 r1 ok1 p1 => step ok1 p1 fun y G2 H2 w _ g2 r2 ok2 p2 => by
    cases e : o x y with
    | none => rw [e] at p2; exact p2.elim
    | some d =>
      rw [e] at p2
      exact hr G2 H2 v w x y d _ e ok2.s (r1.gr g2) r2 fun G' H' g' => ⟨d, rfl, p2 G' H' d g' rfl⟩
/-- a truth as a value -/
def bv (f : Rho → R Bool) : Rho → R D := fun ρ => (f ρ).bind fun b => .ok (.bool b)
theorem me_cmp {op : CmpOp} {r : R2} {o : D → D → Option Bool} {a b : Expr} {f g : Rho → R D} {pos : Pos} (ho : OpR X (compareOp op) r) (hr : CmD X c.ns r o) (ha : MB X c W a f) (hb : MB X c W b g) (hm : behindInMarks op b = false) : ME X c W (.Compare a [op] [b] pos) (bv (e2 o f g)) :=
  PE.imp (pe_cmpR ho ha hb hm) fun σ H Qk ⟨G, ρ, ok, p⟩ => by
    have p' : Post W (RelQ X.K c.ns) G H σ Qk ((f ρ).bind fun x => (g ρ).bind fun y => (R.of (o x y)).bind fun b => .ok (.bool b)) := by
      have e : bv (e2 o f g) ρ = ((f ρ).bind fun x => (g ρ).bind fun y => (R.of (o x y)).bind fun b => .ok (.bool b)) := by
        unfold bv e2
        cases f ρ with
        | ok x => cases g ρ <;> rfl
        | rz _ => rfl
        | bad => rfl
      rw [← e]
      exact p
    exact step ok p' fun x G1 H1 v _ g1 r1 ok1 p1 => step ok1 p1 fun y G2 H2 w _ g2 r2 ok2 p2 => by
      cases e : o x y with
      | none => rw [e] at p2; exact p2.elim
      | some d =>
        rw [e] at p2
        exact hr G2 H2 v w x y d _ e ok2.s (r1.gr g2) r2 fun G' H' g' => p2 G' H' _ g' (.bl d)

/-! ### truth -/
def asB : D → Option Bool
  | .bool b => some b
  | _ => none
/-- an expression that gives True or False, as a test -/
theorem mt_val {e : Expr} {f : Rho → R D} (h : MB X c W e f) (he : ∀ whole, isTrue e X.env whole = (do let v ← whole; standAt e.pos; holding [v] (truthy v)) := by intro _; rfl) : MT X c W e (e1 asB f) :=
  PT.imp (pt_val h he) fun σ H Qk ⟨G, ρ, ok, p⟩ => step ok p fun x G1 H1 v _ g1 r1 ok1 p1 => by
    cases x with
    | bool b =>
      obtain rfl := r1.bool
      exact ⟨b, rfl, p1 G1 H1 b (Gr.refl ok1.s) rfl⟩
    | _ => exact p1.elim
def andT (f g : Rho → R Bool) : Rho → R Bool := fun ρ => (f ρ).bind fun b => if b then g ρ else .ok false
def orT (f g : Rho → R Bool) : Rho → R Bool := fun ρ => (f ρ).bind fun b => if b then .ok true else g ρ
def notT (f : Rho → R Bool) : Rho → R Bool := fun ρ => (f ρ).bind fun b => .ok (!b)
theorem post_same {β α : Type} {Rel : Hp → Hp → β → α → Prop} {G H : Hp} {σ : L2.St} {Qk : β → Hp → Prop} {f : Rho → R α} {ρ : Rho} (ok : Ok X.K c G H ρ σ) (h : Post W Rel G H σ Qk (f ρ)) : tR X.K c W Rel f σ H Qk := ⟨G, ρ, ok, h⟩
theorem mw_and1 {a : Expr} {pos : Pos} {f : Rho → R Bool} (h : MT X c W a f) : MW X c W (.BoolOp .And [a] pos) f := pw_and1 h
theorem mw_or1 {a : Expr} {pos : Pos} {f : Rho → R Bool} (h : MT X c W a f) : MW X c W (.BoolOp .Or [a] pos) f := pw_or1 h
theorem mw_and {a b : Expr} {rest : List Expr} {pos : Pos} {f g : Rho → R Bool} (ha : MT X c W a f) (hb : MW X c W (.BoolOp .And (b :: rest) pos) g) : MW X c W (.BoolOp .And (a :: b :: rest) pos) (andT f g) :=
  PW.imp (pw_and ha hb) fun σ H Qk ⟨G, ρ, ok, p⟩ => step ok p fun x G1 H1 v _ g1 r1 ok1 p1 => by
    subst r1
    cases v with
    | true => exact post_same ok1 p1
    | false => exact p1 G1 H1 false (Gr.refl ok1.s) rfl
theorem mw_or {a b : Expr} {rest : List Expr} {pos : Pos} {f g : Rho → R Bool} (ha : MT X c W a f) (hb : MW X c W (.BoolOp .Or (b :: rest) pos) g) : MW X c W (.BoolOp .Or (a :: b :: rest) pos) (orT f g) :=
  PW.imp (pw_or ha hb) fun σ H Qk ⟨G, ρ, ok, p⟩ => step ok p fun x G1 H1 v _ g1 r1 ok1 p1 => by
    subst r1
    cases v with
    | false => exact post_same ok1 p1
    | true => exact p1 G1 H1 true (Gr.refl ok1.s) rfl
theorem mt_w {e : Expr} {f : Rho → R Bool} (h : MW X c W e f) : MT X c W e f := PW.pt h
theorem mt_not {a : Expr} {pos : Pos} {f : Rho → R Bool} (ha : MT X c W a f) : MT X c W (.UnaryOp .Not a pos) (notT f) :=
  PT.imp (pt_not ha) fun σ H Qk ⟨G, ρ, ok, p⟩ => step ok p fun x G1 H1 v _ g1 r1 ok1 p1 => by
    subst r1
    exact p1 G1 H1 _ (Gr.refl ok1.s) rfl
/-- .. as values; all but the last True or False -/
def andV (f g : Rho → R D) : Rho → R D := fun ρ => (f ρ).bind fun x => match x with
  | .bool true => g ρ
  | .bool false => .ok (.bool false)
  | _ => .bad
def orV (f g : Rho → R D) : Rho → R D := fun ρ => (f ρ).bind fun x => match x with
  | .bool true => .ok (.bool true)
  | .bool false => g ρ
  | _ => .bad
def notV (f : Rho → R D) : Rho → R D := fun ρ => (f ρ).bind fun x => match x with
  | .bool b => .ok (.bool !b)
  | _ => .bad
theorem me_one {op} {a : Expr} {pos : Pos} {f : Rho → R D} (h : ME X c W a f) : ME X c W (.BoolOp op [a] pos) f := pe_one h
theorem me_and {a b : Expr} {rest : List Expr} {pos : Pos} {f g : Rho → R D} (ha : MB X c W a f) (hb : ME X c W (.BoolOp .And (b :: rest) pos) g) : ME X c W (.BoolOp .And (a :: b :: rest) pos) (andV f g) :=
  PE.imp (pe_and ha hb) fun σ H Qk ⟨G, ρ, ok, p⟩ => step ok p fun x G1 H1 v _ g1 r1 ok1 p1 => by
    cases x with
    | bool b =>
      obtain rfl := r1.bool
      refine ⟨b, rfl, ?_⟩
      cases b with
      | true => exact post_same ok1 p1
      | false => exact p1 G1 H1 _ (Gr.refl ok1.s) (.bl false)
    | _ => exact p1.elim
theorem me_or {a b : Expr} {rest : List Expr} {pos : Pos} {f g : Rho → R D} (ha : MB X c W a f) (hb : ME X c W (.BoolOp .Or (b :: rest) pos) g) : ME X c W (.BoolOp .Or (a :: b :: rest) pos) (orV f g) :=
  PE.imp (pe_or ha hb) fun σ H Qk ⟨G, ρ, ok, p⟩ => step ok p fun x G1 H1 v _ g1 r1 ok1 p1 => by
    cases x with
    | bool b =>
      obtain rfl := r1.bool
      refine ⟨b, rfl, ?_⟩
      cases b with
      | false => exact post_same ok1 p1
      | true => exact p1 G1 H1 _ (Gr.refl ok1.s) (.bl true)
    | _ => exact p1.elim
theorem me_not {a : Expr} {pos : Pos} {f : Rho → R D} (ha : MB X c W a f) : ME X c W (.UnaryOp .Not a pos) (notV f) :=
  PE.imp (pe_not ha) fun σ H Qk ⟨G, ρ, ok, p⟩ => step ok p fun x G1 H1 v _ g1 r1 ok1 p1 => by
    cases x with
    | bool b =>
      obtain rfl := r1.bool
      exact ⟨b, rfl, p1 G1 H1 _ (Gr.refl ok1.s) (.bl _)⟩
    | _ => exact p1.elim
def ifE {α : Type} (t : Rho → R Bool) (f g : Rho → R α) : Rho → R α := fun ρ => (t ρ).bind fun b => if b then f ρ else g ρ
theorem me_if {t a b : Expr} {pos : Pos} {ft : Rho → R Bool} {f g : Rho → R D} (ht : MT X c W t ft) (ha : ME X c W a f) (hb : ME X c W b g) : ME X c W (.IfExp t a b pos) (ifE ft f g) :=
  PE.imp (pe_ifExp ht ha hb) fun σ H Qk ⟨G, ρ, ok, p⟩ => step ok p fun x G1 H1 v _ g1 r1 ok1 p1 => by
    subst r1
    cases v with
    | true => exact post_same ok1 p1
    | false => exact post_same ok1 p1
theorem mb_if {t a b : Expr} {pos : Pos} {ft : Rho → R Bool} {f g : Rho → R D} (ht : MT X c W t ft) (ha : MB X c W a f) (hb : MB X c W b g) : MB X c W (.IfExp t a b pos) (ifE ft f g) :=
  PE.imp (pe_ifExp ht ha hb) fun σ H Qk ⟨G, ρ, ok, p⟩ => step ok p fun x G1 H1 v _ g1 r1 ok1 p1 => by
    subst r1
    cases v with
    | true => exact post_same ok1 p1
    | false => exact post_same ok1 p1
/-! ### argument lists, displays -/
def cons' (f : Rho → R D) (g : Rho → R (List D)) : Rho → R (List D) := fun ρ => (f ρ).bind fun x => (g ρ).bind fun xs => .ok (x :: xs)
theorem ma_nil : MA X c W [] (cst []) := PA.imp pa_nil fun σ H Qk ⟨G, ρ, ok, p⟩ => p G H [] (Gr.refl ok.s) .nil
theorem mba_nil : MBA X c W [] (cst []) := PA.imp pa_nil fun σ H Qk ⟨G, ρ, ok, p⟩ => p G H [] (Gr.refl ok.s) .nil
theorem ma_cons {e : Expr} {es : List Expr} {f : Rho → R D} {g : Rho → R (List D)} (ha : ME X c W e f) (hr : MA X c W es g) (hs : starEach (e :: es) X.env = (false, eval e X.env) :: starEach es X.env := by rfl) : MA X c W (e :: es) (cons' f g) :=
  PA.imp (pa_cons ha hr hs) fun σ H Qk ⟨G, ρ, ok, p⟩ => step ok p fun x G1 H1 v _ g1 r1 ok1 p1 => step ok1 p1 fun y G2 H2 w _ g2 r2 ok2 p2 =>
    p2 G2 H2 _ (Gr.refl ok2.s) (.cons (Q.mono g2.g _ _ r1) r2)
theorem mba_cons {e : Expr} {es : List Expr} {f : Rho → R D} {g : Rho → R (List D)} (ha : MB X c W e f) (hr : MBA X c W es g) (hs : starEach (e :: es) X.env = (false, eval e X.env) :: starEach es X.env := by rfl) : MBA X c W (e :: es) (cons' f g) :=
  PA.imp (pa_cons ha hr hs) fun σ H Qk ⟨G, ρ, ok, p⟩ => step ok p fun x G1 H1 v _ g1 r1 ok1 p1 => step ok1 p1 fun y G2 H2 w _ g2 r2 ok2 p2 =>
    p2 G2 H2 _ (Gr.refl ok2.s) (.cons (r1.gr g2) r2)
def tupE (g : Rho → R (List D)) : Rho → R D := fun ρ => (g ρ).bind fun xs => if xs.length ≤ 1000000 then .ok (.tuple xs) else .bad
def lstE (g : Rho → R (List D)) : Rho → R D := fun ρ => (g ρ).bind fun xs => if xs.length ≤ 1000000 then .ok (.list xs) else .bad
theorem sz {n : Nat} (h : n ≤ 1000000) : n ≤ sizeLine := Nat.le_trans h (by decide)
theorem szl {n : Nat} (h : n < 1000000) : n < sizeLine := Nat.lt_of_lt_of_le h (by decide)
theorem me_tup {es : List Expr} {k : Nat} {pos : Pos} {g : Rho → R (List D)} (h : MA X c W es g) : ME X c W (.Tuple es k pos) (tupE g) :=
  PE.imp (pe_tup h) fun σ H Qk ⟨G, ρ, ok, p⟩ => step ok p fun xs G1 H1 vs _ g1 r1 ok1 p1 => by
    by_cases hl : xs.length ≤ 1000000
    · rw [if_pos hl] at p1
      exact ⟨by rw [r1.length]; exact sz hl, fun q hq => p1 _ _ _ (Gr.new ok1.s hq nt_tup) (.tup (.inl (.inl upd_same)) (QA.mono (new_same (ok1.s.free hq)) _ _ r1))⟩
    · rw [if_neg hl] at p1; exact p1.elim
theorem me_lst {es : List Expr} {pos : Pos} {g : Rho → R (List D)} (h : MA X c W es g) : ME X c W (.List es pos) (lstE g) :=
  PE.imp (pe_lst h) fun σ H Qk ⟨G, ρ, ok, p⟩ => step ok p fun xs G1 H1 vs _ g1 r1 ok1 p1 => by
    by_cases hl : xs.length ≤ 1000000
    · rw [if_pos hl] at p1
      exact ⟨by rw [r1.length]; exact sz hl, fun q hq => p1 _ _ _ (Gr.new ok1.s hq nt_lst) (.lst upd_same (QA.mono (new_same (ok1.s.free hq)) _ _ r1))⟩
    · rw [if_neg hl] at p1; exact p1.elim
/-! ### calls of built-ins -/
def CaD (X : Cx) (ns : Sc) (r : List V → Hp → VK → Prop) (o : List D → Option D) : Prop := ∀ (G H : Hp) (vs : List V) (ds : List D) (d : D) (Qk : VK), o ds = some d → Sub G H → BA X.K ns G H vs ds → (∀ G' H' u, Gr G H G' H' → Q X.K ns G' u d → Qk u H') → r vs H Qk
theorem me_callB {id : String} {r : List V → Hp → VK → Prop} {o : List D → Option D} {x : Str} {e : Expr} {es : List Expr} {g : Rho → R (List D)} {p pos : Pos} (hc : CallR X (.builtin id) r) (hr : CaD X c.ns r o) (hg : Gl X x) (hm : X.mg x = none) (hv : bootBuiltins x = some (.builtin id)) (ha : MBA X c W (e :: es) g)
    (hn : x ≠ "__name__" := by decide) (hdb : (x == ("__debug__" : Str)) = false := by decide) (he : starEach (e :: es) X.env = (false, eval e X.env) :: starEach es X.env := by rfl) (hpl : (backTo pos (starEach es X.env)).any (·.1) = false := by rfl) :
    ME X c W (.Call (.Name x p) (e :: es) [] pos) (e1 o g) :=
  PE.imp (pe_callB hc hg hm hv ha hn hdb he hpl) fun σ H Qk ⟨G, ρ, ok, p⟩ => step ok p fun xs G1 H1 vs _ g1 r1 ok1 p1 => by
    cases e : o xs with
    | none => rw [e] at p1; exact p1.elim
    | some d =>
      rw [e] at p1
      exact hr G1 H1 vs xs d Qk e ok1.s r1 p1
theorem me_callTy {T : String} {r : List V → Hp → VK → Prop} {o : List D → Option D} {x : Str} {e : Expr} {es : List Expr} {g : Rho → R (List D)} {p pos : Pos} (hc : CallR X (.type T) r) (hr : CaD X c.ns r o) (hg : Gl X x) (hm : X.mg x = none) (hv : bootBuiltins x = some (.type T)) (ha : MBA X c W (e :: es) g)
    (hn : x ≠ "__name__" := by decide) (hdb : (x == ("__debug__" : Str)) = false := by decide) (he : starEach (e :: es) X.env = (false, eval e X.env) :: starEach es X.env := by rfl) (hpl : (backTo pos (starEach es X.env)).any (·.1) = false := by rfl) :
    ME X c W (.Call (.Name x p) (e :: es) [] pos) (e1 o g) :=
  PE.imp (pe_callTy hc hg hm hv ha hn hdb he hpl) fun σ H Qk ⟨G, ρ, ok, p⟩ => step ok p fun xs G1 H1 vs _ g1 r1 ok1 p1 => by
    cases e : o xs with
    | none => rw [e] at p1; exact p1.elim
    | some d =>
      rw [e] at p1
      exact hr G1 H1 vs xs d Qk e ok1.s r1 p1
end
end M

namespace M
open PySem PySem.Spec PyProof.Rows L2

theorem Nw.of {H H' : Hp} {a : Addr} (e : Ex H H') (n : Nw H' a) : Nw H a := fun o h t => n o (e.keep a o h t) t
theorem Nw.none {H : Hp} {a : Addr} (h : H a = none) : Nw H a := fun o e _ => by rw [h] at e; cases e
theorem Nw.ne {H : Hp} {a b : Addr} {us : List V} (n : Nw H a) (h : H b = some (.lst us)) : b ≠ a := fun e => by
  subst e
  exact n _ h nt_lst

/-! ### slots are set -/
/-- what a slot may take: data, or a list that no other slot has -/
def NwSl (K : PySem.W.Frag) (c : Cm) (H0 G H : Hp) (v : V) : Sl → Prop
  | .no => True
  | .d x => Q K c.ns G v x
  | .o xs => ∃ a us, v = .ref a ∧ H a = some (.lst us) ∧ G a = none ∧ Nw H0 a ∧ QA K c.ns G us xs
theorem getset {α : Type} {l : List α} {i j : Nat} {x y : α} (h : (l.set i x)[j]? = some y) : (i = j ∧ x = y ∧ i < l.length) ∨ (i ≠ j ∧ l[j]? = some y) := by
  by_cases hj : i = j
  · subst hj
    by_cases hl : i < l.length
    · rw [List.getElem?_set_self hl] at h
      exact .inl ⟨rfl, Option.some.inj h, hl⟩
    · rw [List.getElem?_eq_none (by simp; omega)] at h
      cases h
  · rw [List.getElem?_set_ne hj] at h
    exact .inr ⟨hj, h⟩
section
variable {K : PySem.W.Frag} {c : Cm} {G H G' H' : Hp} {ρ : Rho} {σ : L2.St}
theorem NwSl.gr {Hp0 : Hp} {v : V} {s : Sl} (h : NwSl K c Hp0 G H v s) (g : Gr G H G' H') : NwSl K c Hp0 G' H' v s := by
  cases s with
  | no => trivial
  | d x => exact Q.mono g.g _ _ h
  | o xs =>
    obtain ⟨a, us, e, ha, ga, h0, q⟩ := h
    exact ⟨a, us, e, g.h.keep a _ ha nt_lst, g.n a _ ha nt_lst ga, h0, QA.mono g.g _ _ q⟩
/-- slot i takes a value; its list is in no other slot -/
theorem Ok.setS (h : Ok K c G H ρ σ) (i : Nat) {v : V} {s : Sl} (q : NwSl K c c.H0 G H v s) (hd : ∀ xs a, s = .o xs → v = .ref a → ∀ j ys, j ≠ i → ρ[j]? = some (.o ys) → σ[j]? ≠ some (some (.ref a))) :
    Ok K c G H (ρ.set i s) (σ.set i (some v)) := by
  refine ⟨h.s, h.e, by simp [h.len], fun j x e => ?_, fun j k a xs ys e1 e2 e3 e4 => ?_⟩
  · rcases getset e with ⟨rfl, rfl, hl⟩ | ⟨hj, e'⟩
    · rw [List.getElem?_set_self (by rw [← h.len]; exact hl)]
      cases s with
      | no => trivial
      | d x => exact ⟨v, rfl, q⟩
      | o xs =>
        obtain ⟨a, us, rfl, r⟩ := q
        exact ⟨a, us, rfl, r⟩
    · rw [List.getElem?_set_ne hj]
      exact h.sl j x e'
  · rcases getset e1 with ⟨rfl, rfl, hl⟩ | ⟨hj, e1'⟩
    · rcases getset e2 with ⟨rfl, _, _⟩ | ⟨hk, e2'⟩
      · rfl
      · rw [List.getElem?_set_self (by rw [← h.len]; exact hl)] at e3
        rw [List.getElem?_set_ne hk] at e4
        cases e3
        exact absurd e4 (hd xs a rfl rfl k ys (Ne.symm hk) e2')
    · rw [List.getElem?_set_ne hj] at e3
      rcases getset e2 with ⟨rfl, rfl, hl⟩ | ⟨hk, e2'⟩
      · rw [List.getElem?_set_self (by rw [← h.len]; exact hl)] at e4
        cases e4
        exact absurd e3 (hd ys a rfl rfl j xs (Ne.symm hj) e1')
      · rw [List.getElem?_set_ne hk] at e4
        exact h.dj j k a xs ys e1' e2' e3 e4
/-- what is new stands apart from the slots -/
theorem Ok.apart (h : Ok K c G H ρ σ) {a : Addr} (n : Nw H a) {j : Nat} {ys : List D} (e : ρ[j]? = some (.o ys)) : σ[j]? ≠ some (some (.ref a)) := fun z => by
  obtain ⟨b, us, e2, hb, _⟩ := h.sl j _ e
  rw [z] at e2
  cases e2
  exact n.ne hb rfl
theorem Ok.new (h : Ok K c G H ρ σ) (g : Gr G H G' H') (i : Nat) {v : V} {s : Sl} (q : NwSl K c H G' H' v s) : Ok K c G' H' (ρ.set i s) (σ.set i (some v)) := by
  refine (h.gr g).setS i ?_ fun xs a es ev j ys _ e1 => ?_
  · cases s with
    | no => trivial
    | d x => exact q
    | o xs =>
      obtain ⟨a, us, rfl, h1, h2, h3, h4⟩ := q
      exact ⟨a, us, rfl, h1, h2, h3.of h.e.h, h4⟩
  · subst es ev
    obtain ⟨a', us, e, h1, h2, h3, h4⟩ := q
    cases e
    exact h.apart h3 e1
/-- a list of one's own is handed out for good -/
def frz (i : Nat) (ρ : Rho) : Rho := match ρ[i]? with
  | some (.o xs) => ρ.set i (.d (.list xs))
  | _ => ρ
theorem Ok.frz (h : Ok K c G H ρ σ) (i : Nat) : ∃ G', Same G G' ∧ Ok K c G' H (frz i ρ) σ := by
  cases e : ρ[i]? with
  | none => exact ⟨G, Same.refl G, by unfold M.frz; rw [e]; exact h⟩
  | some x =>
    cases x with
    | no => exact ⟨G, Same.refl G, by unfold M.frz; rw [e]; exact h⟩
    | d x => exact ⟨G, Same.refl G, by unfold M.frz; rw [e]; exact h⟩
    | o xs =>
      obtain ⟨a, us, e1, ha, ga, n0, q⟩ := h.sl i _ e
      have sm : Same G (upd G a (.lst us)) := new_same ga
      have eq : M.frz i ρ = ρ.set i (.d (.list xs)) := by unfold M.frz; rw [e]
      rw [eq]
      refine ⟨upd G a (.lst us), sm, ?_, ?_, by simp [h.len], fun j x e2 => ?_, fun j k b ys zs e2 e3 e4 e5 => ?_⟩
      · intro b o hb
        by_cases z : b = a
        · subst z
          rw [upd_same] at hb
          cases hb
          exact ⟨ha, nt_lst⟩
        · rw [upd_ne z] at hb
          exact h.s b o hb
      · refine ⟨h.e.g.trans sm, h.e.h, ?_, fun b o hb ht gb => ?_⟩
        · intro b o hb
          by_cases z : b = a
          · subst z
            rw [upd_same] at hb
            cases hb
            exact ⟨ha, nt_lst⟩
          · rw [upd_ne z] at hb
            exact h.s b o hb
        · rw [upd_ne (fun z => by subst z; exact n0 o hb ht)]
          exact h.e.n b o hb ht gb
      · rcases getset e2 with ⟨rfl, rfl, hl⟩ | ⟨hj, e2'⟩
        · exact ⟨.ref a, e1, .lst upd_same (QA.mono sm _ _ q)⟩
        · have := h.sl j x e2'
          cases x with
          | no => trivial
          | d x =>
            obtain ⟨u, e3, q3⟩ := this
            exact ⟨u, e3, Q.mono sm _ _ q3⟩
          | o ys =>
            obtain ⟨b, ws, e3, hb, gb, nb, qb⟩ := this
            refine ⟨b, ws, e3, hb, ?_, nb, QA.mono sm _ _ qb⟩
            rw [upd_ne (fun z => hj (h.dj i j a xs ys e e2' e1 (by rw [← z]; exact e3)))]
            exact gb
      · rcases getset e2 with ⟨rfl, z, _⟩ | ⟨hj, e2'⟩
        · cases z
        · rcases getset e3 with ⟨rfl, z, _⟩ | ⟨hk, e3'⟩
          · cases z
          · exact h.dj j k b ys zs e2' e3' e4 e5
/-- a list of one's own is changed -/
theorem Ok.wr (h : Ok K c G H ρ σ) {i : Nat} {a : Addr} {xs ys : List D} {us ws : List V} (e : ρ[i]? = some (.o xs)) (e1 : σ[i]? = some (some (.ref a))) (ha : H a = some (.lst us)) (ga : G a = none) (n0 : Nw c.H0 a) (q : QA K c.ns G ws ys) :
    Ok K c G (upd H a (.lst ws)) (ρ.set i (.o ys)) σ := by
  have hb : ∀ b o, b ≠ a → H b = some o → upd H a (.lst ws) b = some o := fun b o z e => by rw [upd_ne z]; exact e
  have hs : Sub G (upd H a (.lst ws)) := fun b o hg => ⟨hb b o (fun z => by subst z; rw [ga] at hg; cases hg) (h.s b o hg).1, (h.s b o hg).2⟩
  have hl : i < ρ.length := (List.getElem?_eq_some_iff.mp e).1
  refine ⟨hs, ⟨h.e.g, ⟨fun b o e2 ht => hb b o (fun z => by subst z; exact n0 o e2 ht) (h.e.h.keep b o e2 ht), fun T t => ?_⟩, hs, h.e.n⟩, by simp [h.len], fun j x e2 => ?_, fun j k b ys' zs e2 e3 e4 e5 => ?_⟩
  · obtain ⟨ps, t1, t2, t3⟩ := h.e.h.tabs T t
    refine ⟨ps, hb _ _ (fun z => by rw [z, ha] at t1; cases t1) t1, t2, fun pos cv hc => ?_⟩
    obtain ⟨cc, c1, c2⟩ := t3 pos cv hc
    exact ⟨cc, c1, hb _ _ (fun z => by rw [z, ha] at c2; cases c2) c2⟩
  · rcases getset e2 with ⟨rfl, rfl, _⟩ | ⟨hj, e2'⟩
    · exact ⟨a, ws, e1, upd_same, ga, n0, q⟩
    · have := h.sl j x e2'
      cases x with
      | no => trivial
      | d x => exact this
      | o ys' =>
        obtain ⟨b, vs, e3, hb', gb, nb, qb⟩ := this
        refine ⟨b, vs, e3, hb b _ (fun z => hj (h.dj i j a xs ys' e e2' e1 (by rw [← z]; exact e3))) hb', gb, nb, qb⟩
  · rcases getset e2 with ⟨rfl, _, _⟩ | ⟨hj, e2'⟩
    · rcases getset e3 with ⟨rfl, _, _⟩ | ⟨hk, e3'⟩
      · rfl
      · exact h.dj i k b xs zs e e3' e4 e5
    · rcases getset e3 with ⟨rfl, _, _⟩ | ⟨hk, e3'⟩
      · exact h.dj j i b ys' xs e2' e e4 e5
      · exact h.dj j k b ys' zs e2' e3' e4 e5
end

/-! ### what an assignment takes -/
section
variable (K : PySem.W.Frag) (c : Cm) (W : WM)
def PostN (G H : Hp) (σ : L2.St) (Qk : V → Hp → Prop) : R Sl → Prop
  | .ok s => ∀ G' H' v, Gr G H G' H' → NwSl K c H G' H' v s → Qk v H'
  | .rz z => ∀ G' H', Gr G H G' H' → W z σ H'
  | .bad => False
def tN (f : Rho → R Sl) : TE := fun σ H Qk => ∃ G ρ, Ok K c G H ρ σ ∧ PostN K c W G H σ Qk (f ρ)
end
abbrev MN (X : Cx) (c : Cm) (W : WM) (e : Expr) (f : Rho → R Sl) : Prop := PE X e (tN X.K c W f)
def nD (f : Rho → R D) : Rho → R Sl := fun ρ => (f ρ).bind fun x => .ok (.d x)
/-- a list that has just been made, as a slot's own -/
def nO (f : Rho → R (List D)) : Rho → R Sl := fun ρ => (f ρ).bind fun x => .ok (.o x)
section
variable {X : Cx} {c : Cm} {W : WM}
theorem PostN.gr {K : PySem.W.Frag} {G H G' H' : Hp} {σ : L2.St} {Qk : V → Hp → Prop} {r : R Sl} (h : PostN K c W G H σ Qk r) (g : Gr G H G' H') : PostN K c W G' H' σ Qk r := by
  cases r with
  | ok s => exact fun G2 H2 v g2 q => h G2 H2 v (g.trans g2) (by
      cases s with
      | no => trivial
      | d x => exact q
      | o xs =>
        obtain ⟨a, us, e, h1, h2, h3, h4⟩ := q
        exact ⟨a, us, e, h1, h2, h3.of g.h, h4⟩)
  | rz z => exact fun G2 H2 g2 => h G2 H2 (g.trans g2)
  | bad => exact h
theorem stepN {K : PySem.W.Frag} {α β : Type} {Rel : Hp → Hp → β → α → Prop} {G H : Hp} {σ : L2.St} {ρ : Rho} {f : Rho → R α} {F : α → R Sl} {Qk : V → Hp → Prop} {k : β → Hp → Prop} (ok : Ok K c G H ρ σ) (h : PostN K c W G H σ Qk ((f ρ).bind F))
    (hk : ∀ a G' H' v, f ρ = .ok a → Gr G H G' H' → Rel G' H' v a → Ok K c G' H' ρ σ → PostN K c W G' H' σ Qk (F a) → k v H') : tR K c W Rel f σ H k := by
  refine ⟨G, ρ, ok, ?_⟩
  cases e : f ρ with
  | ok a =>
    rw [e] at h
    exact fun G' H' v g r => hk a G' H' v e g r (ok.gr g) (PostN.gr (r := F a) h g)
  | rz z => rw [e] at h; exact h
  | bad => rw [e] at h; exact h.elim
theorem mn_d {e : Expr} {f : Rho → R D} (h : ME X c W e f) : MN X c W e (nD f) := PE.imp h fun σ H Qk ⟨G, ρ, ok, p⟩ => stepN ok p fun x G1 H1 v _ g1 r1 ok1 p1 => p1 G1 H1 v (Gr.refl ok1.s) r1
def nLst (g : Rho → R (List D)) : Rho → R Sl := fun ρ => (g ρ).bind fun xs => if xs.length ≤ 1000000 then .ok (.o xs) else .bad
theorem mn_lst {es : List Expr} {pos : Pos} {g : Rho → R (List D)} (h : MA X c W es g) : MN X c W (.List es pos) (nLst g) :=
  PE.imp (pe_lst h) fun σ H Qk ⟨G, ρ, ok, p⟩ => stepN ok p fun xs G1 H1 vs _ g1 r1 ok1 p1 => by
      by_cases hl : xs.length ≤ 1000000
      · rw [if_pos hl] at p1
        exact ⟨by rw [r1.length]; exact sz hl, fun q hq => p1 G1 _ _ (Gr.own ok1.s hq) ⟨q, vs, rfl, upd_same, ok1.s.free hq, Nw.none hq, r1⟩⟩
      · rw [if_neg hl] at p1; exact p1.elim
end

/-! ### statements -/
inductive Out where
  | nx (ρ : Rho)
  | rt (x : D)
  | rf (xs : List D)
  | rz (c : Str) (ρ : Rho)
  | bk (ρ : Rho)
  | ct (ρ : Rho)
  | bad
def R.out {α : Type} (r : R α) (ρ : Rho) (k : α → Out) : Out := match r with
  | .ok a => k a
  | .rz z => .rz z ρ
  | .bad => .bad
section
variable (K : PySem.W.Frag) (c : Cm) (W : WM)
def PostS (G : Hp) (De : Ends) : Out → Prop
  | .nx ρ => ∀ G' H' σ, Same G G' → Ok K c G' H' ρ σ → De.nx σ H'
  | .rt x => ∀ G' H' v, Gr c.G0 c.H0 G' H' → Q K c.ns G' v x → De.rt v H'
  | .rf xs => ∀ G' H' a us, Gr c.G0 c.H0 G' H' → Nw c.H0 a → H' a = some (.lst us) → G' a = none → QA K c.ns G' us xs → De.rt (.ref a) H'
  | .rz z ρ => ∀ G' H' σ, Same G G' → Ok K c G' H' ρ σ → W z σ H'
  | .bk ρ => ∀ G' H' σ, Same G G' → Ok K c G' H' ρ σ → De.bk σ H'
  | .ct ρ => ∀ G' H' σ, Same G G' → Ok K c G' H' ρ σ → De.ct σ H'
  | .bad => False
def tS (f : Rho → Out) : TS := fun De σ H => ∃ G ρ, Ok K c G H ρ σ ∧ PostS K c W G De (f ρ)
end
abbrev MS (X : Cx) (c : Cm) (W : WM) (st : Stmt) (f : Rho → Out) : Prop := PS X st (tS X.K c W f)
abbrev MSs (X : Cx) (c : Cm) (W : WM) (st : List Stmt) (f : Rho → Out) : Prop := PSs X st (tS X.K c W f)
section
variable {K : PySem.W.Frag} {c : Cm} {W : WM} {G H G' H' : Hp} {σ : L2.St} {ρ : Rho} {De : Ends}
theorem PostS.gr {o : Out} (h : PostS K c W G De o) (g : Same G G') : PostS K c W G' De o := by
  cases o with
  | nx ρ => exact fun G2 H2 σ s ok => h G2 H2 σ (g.trans s) ok
  | rt x => exact h
  | rf x => exact h
  | rz z ρ => exact fun G2 H2 σ s ok => h G2 H2 σ (g.trans s) ok
  | bk ρ => exact fun G2 H2 σ s ok => h G2 H2 σ (g.trans s) ok
  | ct ρ => exact fun G2 H2 σ s ok => h G2 H2 σ (g.trans s) ok
  | bad => exact h
theorem stepS {α β : Type} {Rel : Hp → Hp → β → α → Prop} {f : Rho → R α} {F : α → Out} {k : β → Hp → Prop} (ok : Ok K c G H ρ σ) (h : PostS K c W G De ((f ρ).out ρ F))
    (hk : ∀ a G' H' v, f ρ = .ok a → Gr G H G' H' → Rel G' H' v a → Ok K c G' H' ρ σ → PostS K c W G' De (F a) → k v H') : tR K c W Rel f σ H k := by
  refine ⟨G, ρ, ok, ?_⟩
  cases e : f ρ with
  | ok a =>
    rw [e] at h
    exact fun G' H' v g r => hk a G' H' v e g r (ok.gr g) (PostS.gr (o := F a) h g.g)
  | rz z =>
    rw [e] at h
    exact fun G' H' g => h G' H' σ g.g (ok.gr g)
  | bad => rw [e] at h; exact h.elim
theorem stepSN {f : Rho → R Sl} {F : Sl → Out} {k : V → Hp → Prop} (ok : Ok K c G H ρ σ) (h : PostS K c W G De ((f ρ).out ρ F))
    (hk : ∀ s G' H' v, f ρ = .ok s → Gr G H G' H' → NwSl K c H G' H' v s → Ok K c G' H' ρ σ → PostS K c W G' De (F s) → k v H') : tN K c W f σ H k := by
  refine ⟨G, ρ, ok, ?_⟩
  cases e : f ρ with
  | ok a =>
    rw [e] at h
    exact fun G' H' v g r => hk a G' H' v e g r (ok.gr g) (PostS.gr (o := F a) h g.g)
  | rz z =>
    rw [e] at h
    exact fun G' H' g => h G' H' σ g.g (ok.gr g)
  | bad => rw [e] at h; exact h.elim
end
def sNil : Rho → Out := .nx
def sSeq (f g : Rho → Out) : Rho → Out := fun ρ => match f ρ with
  | .nx ρ' => g ρ'
  | .rt x => .rt x
  | .rf x => .rf x
  | .rz z ρ' => .rz z ρ'
  | .bk ρ' => .bk ρ'
  | .ct ρ' => .ct ρ'
  | .bad => .bad
def sSet (i : Nat) (f : Rho → R Sl) : Rho → Out := fun ρ => (f ρ).out ρ fun s => .nx (ρ.set i s)
def sRet (f : Rho → R D) : Rho → Out := fun ρ => (f ρ).out ρ .rt
def sRetN (f : Rho → R Sl) : Rho → Out := fun ρ => (f ρ).out ρ fun s => match s with
  | .d x => .rt x
  | .o xs => .rf xs
  | .no => .bad
def sIf (t : Rho → R Bool) (f g : Rho → Out) : Rho → Out := fun ρ => (t ρ).out ρ fun b => if b then f ρ else g ρ
def sDrop (f : Rho → R D) : Rho → Out := fun ρ => (f ρ).out ρ fun _ => .nx ρ
def sFrz (i : Nat) (f : Rho → Out) : Rho → Out := fun ρ => f (frz i ρ)
def sBad : Rho → Out := fun _ => .bad
section
variable {X : Cx} {c : Cm} {W : WM}
theorem mss_nil : MSs X c W [] sNil := PSs.imp pss_nil fun De σ H ⟨G, ρ, ok, p⟩ => p G H σ (Same.refl G) ok
theorem seq_post {K : PySem.W.Frag} {G : Hp} {De : Ends} {f g : Rho → Out} {ρ : Rho} (p : PostS K c W G De (sSeq f g ρ)) : PostS K c W G { De with nx := tS K c W g De } (f ρ) := by
  unfold sSeq at p
  cases e : f ρ with
  | nx ρ' =>
    rw [e] at p
    exact fun G' H' σ s ok => ⟨G', ρ', ok, PostS.gr (o := g ρ') p s⟩
  | rt x => rw [e] at p; exact p
  | rf x => rw [e] at p; exact p
  | rz z ρ' => rw [e] at p; exact p
  | bk ρ' => rw [e] at p; exact p
  | ct ρ' => rw [e] at p; exact p
  | bad => rw [e] at p; exact p
theorem mss_cons {st : Stmt} {rest : List Stmt} {f g : Rho → Out} (h1 : MS X c W st f) (h2 : MSs X c W rest g) : MSs X c W (st :: rest) (sSeq f g) :=
  PSs.imp (pss_cons h1 h2) fun De σ H ⟨G, ρ, ok, p⟩ => ⟨G, ρ, ok, seq_post p⟩
theorem mss_one {st : Stmt} {f : Rho → Out} (h : MS X c W st f) : MSs X c W [st] f := pss_one h
theorem ms_set {i : Nat} {x : Str} {e : Expr} {f : Rho → R Sl} {pos pos' : Pos} (hN : X.N.Nodup) (hi : X.N[i]? = some x) (hx : Loc X.env.scope x) (he : MN X c W e f) (hs : swapsWith e (some (.Name x pos')) pos.line X.env = pure false := by rfl) (hf : X.fn x = true ∨ X.env.scope.names.lookup x = some .local := by first | exact .inl rfl | exact .inr rfl | assumption) :
    MS X c W (.Assign [.Name x pos'] e pos) (sSet i f) := PS.imp (ps_set hN hi hx he hs hf) fun De σ H ⟨G, ρ, ok, p⟩ => stepSN ok p fun s G1 H1 v _ g1 r1 ok1 p1 => p1 G1 H1 _ (Same.refl G1) (ok.new g1 i r1)
theorem ms_ret {e : Expr} {f : Rho → R D} {pos : Pos} (he : ME X c W e f) : MS X c W (.Return (some e) pos) (sRet f) :=
  PS.imp (ps_ret he) fun De σ H ⟨G, ρ, ok, p⟩ => stepS ok p fun x G1 H1 v _ g1 r1 ok1 p1 => p1 G1 H1 v ok1.e r1
theorem ms_retN {e : Expr} {f : Rho → R Sl} {pos : Pos} (he : MN X c W e f) : MS X c W (.Return (some e) pos) (sRetN f) :=
  PS.imp (ps_ret he) fun De σ H ⟨G, ρ, ok, p⟩ => stepSN ok p fun s G1 H1 v _ g1 r1 ok1 p1 => by
    cases s with
    | no => exact p1.elim
    | d x => exact p1 G1 H1 v ok1.e r1
    | o xs =>
      obtain ⟨a, us, rfl, h1, h2, h3, h4⟩ := r1
      exact p1 G1 H1 a us ok1.e (h3.of ok.e.h) h1 h2 h4
/-- return x, x a list of one's own -/
def own (i : Nat) : Rho → Out := fun ρ => match ρ[i]? with
  | some (.o xs) => .rf xs
  | some (.d x) => .rt x
  | _ => .bad
theorem ms_retO (i : Nat) {e : Expr} {pos : Pos} (he : PE X e (tVar i)) : MS X c W (.Return (some e) pos) (own i) :=
  PS.imp (ps_ret he) fun De σ H ⟨G, ρ, ok, p⟩ => by
    unfold own at p
    cases e1 : ρ[i]? with
    | none => rw [e1] at p; exact p.elim
    | some x =>
      cases x with
      | no => rw [e1] at p; exact p.elim
      | o xs =>
        rw [e1] at p
        obtain ⟨a, us, e2, ha, ga, n0, q⟩ := ok.sl i _ e1
        exact ⟨_, e2, p G H a us ok.e n0 ha ga q⟩
      | d x =>
        rw [e1] at p
        obtain ⟨u, e2, q⟩ := ok.sl i _ e1
        exact ⟨u, e2, p G H u ok.e q⟩
theorem ms_if {t : Expr} {a b : List Stmt} {ft : Rho → R Bool} {f g : Rho → Out} {pos : Pos} (ht : MT X c W t ft) (ha : MSs X c W a f) (hb : MSs X c W b g) : MS X c W (.If t a b pos) (sIf ft f g) :=
  PS.imp (ps_if ht ha hb) fun De σ H ⟨G, ρ, ok, p⟩ => stepS ok p fun x G1 H1 v _ g1 r1 ok1 p1 => by
    subst r1
    cases v with
    | true => exact ⟨G1, ρ, ok1, p1⟩
    | false => exact ⟨G1, ρ, ok1, p1⟩
theorem ms_expr {e : Expr} {f : Rho → R D} {pos : Pos} (he : MB X c W e f) (hs : swapsWith e none pos.line X.env = pure false := by rfl) : MS X c W (.Expr e pos) (sDrop f) :=
  PS.imp (ps_expr he hs) fun De σ H ⟨G, ρ, ok, p⟩ => stepS ok p fun x G1 H1 v _ g1 r1 ok1 p1 => p1 G1 H1 σ (Same.refl G1) ok1
theorem ms_pass {pos : Pos} : MS X c W (.Pass pos) sNil := PS.imp ps_pass fun De σ H ⟨G, ρ, ok, p⟩ => p G H σ (Same.refl G) ok
theorem ms_break {pos : Pos} : MS X c W (.Break pos) .bk := PS.imp ps_break fun De σ H ⟨G, ρ, ok, p⟩ => p G H σ (Same.refl G) ok
theorem ms_continue {pos : Pos} : MS X c W (.Continue pos) .ct := PS.imp ps_continue fun De σ H ⟨G, ρ, ok, p⟩ => p G H σ (Same.refl G) ok
theorem ms_never {st : Stmt} : MS X c W st sBad := PS.imp ps_never fun De σ H ⟨G, ρ, ok, p⟩ => p
theorem ms_doc {x j pos pos'} : MS X c W (.Expr (.Constant (.str x) j pos) pos') sNil := PS.imp ps_doc fun De σ H ⟨G, ρ, ok, p⟩ => p G H σ (Same.refl G) ok
theorem ms_frz (i : Nat) {st : Stmt} {f : Rho → Out} (h : MS X c W st f) : MS X c W st (sFrz i f) := PS.imp h fun De σ H ⟨G, ρ, ok, p⟩ => by
  obtain ⟨G', s, ok'⟩ := ok.frz i
  exact ⟨G', _, ok', PostS.gr (o := f (frz i ρ)) p s⟩
/-! ### x.append(e), x.extend(e), x[k] = e, x a list of one's own -/
def sApp (i : Nat) (f : Rho → R D) : Rho → Out := fun ρ => match ρ[i]? with
  | some (.o xs) => (f ρ).out ρ fun d => if xs.length < 1000000 then .nx (ρ.set i (.o (xs ++ [d]))) else .bad
  | _ => .bad
theorem tyL {K : PySem.W.Frag} {H : Hp} {a : Addr} {us : List V} (h : H a = some (.lst us)) : tyV K "list" (.ref a) H := .inl ⟨rfl, us, SqL.of h⟩
theorem own_of {K : PySem.W.Frag} {G H : Hp} {ρ : Rho} {σ : L2.St} {i : Nat} {xs : List D} (ok : Ok K c G H ρ σ) (e : ρ[i]? = some (.o xs)) {a : Addr} (e2 : σ[i]? = some (some (.ref a))) : ∃ us, H a = some (.lst us) ∧ G a = none ∧ Nw c.H0 a ∧ QA K c.ns G us xs := by
  obtain ⟨b, us, e3, h⟩ := ok.sl i _ e
  rw [e2] at e3
  cases e3
  exact ⟨us, h⟩
theorem ms_app {i : Nat} {e : Expr} {f : Rho → R D} {pos : Pos} (h : PE X e (tBM X.K "list" rAppend (tVar i) (tCons (tR X.K c W (RelQ X.K c.ns) f) tNil))) (hw : swapsWith e none pos.line X.env = pure false := by rfl) :
    MS X c W (.Expr e pos) (sApp i f) :=
  PS.imp (ps_expr h hw) fun De σ H ⟨G, ρ, ok, p⟩ => by
    unfold sApp at p
    split at p
    · rename_i xs e1
      obtain ⟨a, us, e2, ha, ga, n0, q⟩ := ok.sl i _ e1
      refine ⟨_, e2, tyL ha, stepS ok p fun d G1 H1 v _ g1 r1 ok1 p1 => ?_⟩
      split at p1
      · rename_i hl
        obtain ⟨us1, ha1, ga1, n1, q1⟩ := own_of ok1 e1 e2
        exact ⟨a, us1, v, rfl, rfl, ha1, szl (by rw [q1.length]; exact hl), p1 G1 _ σ (Same.refl G1) (ok1.wr e1 e2 ha1 ga1 n1 (q1.append (.cons r1 .nil)))⟩
      · exact p1.elim
    · exact p.elim
def sExt (i : Nat) (f : Rho → R D) : Rho → Out := fun ρ => match ρ[i]? with
  | some (.o xs) => (f ρ).out ρ fun d => match d with
    | .list ys => if xs.length + ys.length < 1000000 then .nx (ρ.set i (.o (xs ++ ys))) else .bad
    | _ => .bad
  | _ => .bad
theorem ms_ext {i : Nat} {e : Expr} {f : Rho → R D} {pos : Pos} (h : PE X e (tBM X.K "list" rExtend (tVar i) (tCons (tR X.K c W (RelB X.K c.ns) f) tNil))) (hw : swapsWith e none pos.line X.env = pure false := by rfl) :
    MS X c W (.Expr e pos) (sExt i f) :=
  PS.imp (ps_expr h hw) fun De σ H ⟨G, ρ, ok, p⟩ => by
    unfold sExt at p
    split at p
    · rename_i xs e1
      obtain ⟨a, us, e2, ha, ga, n0, q⟩ := ok.sl i _ e1
      refine ⟨_, e2, tyL ha, stepS ok p fun d G1 H1 v _ g1 r1 ok1 p1 => ?_⟩
      split at p1
      · rename_i ys
        split at p1
        · rename_i hl
          obtain ⟨us1, ha1, ga1, n1, q1⟩ := own_of ok1 e1 e2
          obtain ⟨b, ws, rfl, hb, qb⟩ := r1.list ok1.s
          exact ⟨a, b, us1, ws, rfl, rfl, ha1, hb, Nat.le_of_lt (szl (by rw [q1.length, qb.length]; exact hl)), p1 G1 _ σ (Same.refl G1) (ok1.wr e1 e2 ha1 ga1 n1 (q1.append qb))⟩
        · exact p1.elim
      · exact p1.elim
    · exact p.elim
def sPut (i : Nat) (k : Rho → R D) (f : Rho → R D) : Rho → Out := fun ρ => (f ρ).out ρ fun d => match ρ[i]? with
  | some (.o xs) => (k ρ).out ρ fun n => match n with
    | .int n => match ixN xs.length n with
      | some j => .nx (ρ.set i (.o (xs.set j d)))
      | none => .bad
    | _ => .bad
  | _ => .bad
theorem ms_put {i : Nat} {o ke e : Expr} {k f : Rho → R D} {pos pos' : Pos} (ho : PE X o (tVar i)) (hk : MB X c W ke k) (he : ME X c W e f) (hg : PG X (.Subscript o ke pos') (gSub (tVar i) (tR X.K c W (RelB X.K c.ns) k) rSetL))
    (hs : swapsWithSole [.Subscript o ke pos'] e pos.line X.env = pure false := by rfl) (hw : swappedStores [.Subscript o ke pos'] e X.env = pure none := by rfl)
    (h1 : (assignEach [.Subscript o ke pos'] X.env).map (·.2) = [assign (.Subscript o ke pos') X.env] := by rfl) :
    MS X c W (.Assign [.Subscript o ke pos'] e pos) (sPut i k f) :=
  PS.imp (ps_asg he hg hs hw h1) fun De σ H ⟨G, ρ, ok, p⟩ => stepS ok p fun d G1 H1 v _ g1 r1 ok1 p1 => by
    split at p1
    · rename_i xs e1
      obtain ⟨a, us, e2, _⟩ := ok1.sl i _ e1
      refine ⟨_, e2, stepS ok1 p1 fun n G2 H2 w hen g2 r2 ok2 p2 => ?_⟩
      split at p2
      · rename_i n
        split at p2
        · rename_i j hj
          obtain rfl := r2.int
          obtain ⟨us2, ha2, ga2, n2, q2⟩ := own_of ok2 e1 e2
          exact ⟨a, us2, n, j, rfl, rfl, ha2, by rw [q2.length]; exact hj, p2 G2 _ σ (Same.refl G2) (ok2.wr e1 e2 ha2 ga2 n2 (q2.set j (Q.mono g2.g _ _ r1)))⟩
        · exact p2.elim
      · exact p2.elim
    · exact p1.elim
end
end M

namespace M
open PySem PySem.Spec PyProof.Rows L2

theorem PI.imp {X : Cx} {tg e : Expr} {t t' : TI} (h : PI X tg e t) (i : ∀ σ H Q, t' σ H Q → t σ H Q) : PI X tg e t' := ⟨fun pins s σ H Q I hw => h.run pins s σ H Q I (i σ H Q hw)⟩

/-! ### what is walked -/
structure ItOk (K : PySem.W.Frag) (ns : Sc) (J : It) (P : Hp → Prop) (xs : List D) : Prop where
  mono : ∀ G G', Same G G' → P G → P G'
  go : ∀ G H i d, P G → Sub G H → xs[i]? = some d → J.go i H
  yld : ∀ G H i d x H', P G → Sub G H → xs[i]? = some d → J.yld i H x H' → ∃ G', Gr G H G' H' ∧ Q K ns G' x d
  stop : ∀ G H, P G → Sub G H → J.stop xs.length H
def PostI (K : PySem.W.Frag) (c : Cm) (W : WM) (G H : Hp) (σ : L2.St) (Rk : It → Hp → Prop) : R (List D) → Prop
  | .ok xs => ∀ G' H' J P, Gr G H G' H' → ItOk K c.ns J P xs → P G' → Rk J H'
  | .rz z => ∀ G' H', Gr G H G' H' → W z σ H'
  | .bad => False
def tIt (K : PySem.W.Frag) (c : Cm) (W : WM) (f : Rho → R (List D)) : TI := fun σ H Rk => ∃ G ρ, Ok K c G H ρ σ ∧ PostI K c W G H σ Rk (f ρ)
abbrev MI (X : Cx) (c : Cm) (W : WM) (tg e : Expr) (f : Rho → R (List D)) : Prop := PI X tg e (tIt X.K c W f)
section
variable {X : Cx} {c : Cm} {W : WM}
theorem PostI.gr {K : PySem.W.Frag} {G H G' H' : Hp} {σ : L2.St} {Rk : It → Hp → Prop} {r : R (List D)} (h : PostI K c W G H σ Rk r) (g : Gr G H G' H') : PostI K c W G' H' σ Rk r := by
  cases r with
  | ok xs => exact fun G2 H2 J P g2 i p => h G2 H2 J P (g.trans g2) i p
  | rz z => exact fun G2 H2 g2 => h G2 H2 (g.trans g2)
  | bad => exact h
theorem stepI {K : PySem.W.Frag} {α β : Type} {Rel : Hp → Hp → β → α → Prop} {G H : Hp} {σ : L2.St} {ρ : Rho} {f : Rho → R α} {F : α → R (List D)} {Rk : It → Hp → Prop} {k : β → Hp → Prop} (ok : Ok K c G H ρ σ) (h : PostI K c W G H σ Rk ((f ρ).bind F))
    (hk : ∀ a G' H' v, f ρ = .ok a → Gr G H G' H' → Rel G' H' v a → Ok K c G' H' ρ σ → PostI K c W G' H' σ Rk (F a) → k v H') : tR K c W Rel f σ H k := by
  refine ⟨G, ρ, ok, ?_⟩
  cases e : f ρ with
  | ok a =>
    rw [e] at h
    exact fun G' H' v g r => hk a G' H' v e g r (ok.gr g) (PostI.gr (r := F a) h g)
  | rz z => rw [e] at h; exact h
  | bad => rw [e] at h; exact h.elim
theorem QA.none {K : PySem.W.Frag} {ns : Sc} {G : Hp} {ds : List D} {vs : List V} {i : Nat} (h : QA K ns G vs ds) (e : ds[i]? = none) : vs[i]? = none := by
  rw [List.getElem?_eq_none_iff] at e ⊢
  rw [h.length]
  exact e
theorem it_list {K : PySem.W.Frag} {ns : Sc} {a : Addr} {us : List V} {ds : List D} : ItOk K ns (Itl K a) (fun G => G a = some (.lst us) ∧ QA K ns G us ds) ds where
  mono := fun G G' s p => ⟨s _ _ p.1, QA.mono s _ _ p.2⟩
  go := fun G H i d p s e => by
    obtain ⟨v, ev, q⟩ := p.2.get e
    exact ⟨us, v, SqL.of (s _ _ p.1).1, ev⟩
  yld := fun G H i d x H' p s e y => by
    obtain ⟨rfl, y⟩ := y
    obtain ⟨v, ev, q⟩ := p.2.get e
    have := y us (SqL.of (s _ _ p.1).1)
    rw [ev] at this
    cases this
    exact ⟨G, Gr.refl s, q⟩
  stop := fun G H p s => ⟨us, SqL.of (s _ _ p.1).1, Nat.le_of_eq p.2.length⟩
theorem it_tup {K : PySem.W.Frag} {ns : Sc} {a : Addr} {us : List V} {ds : List D} : ItOk K ns (Itt K a) (fun G => SqT K G a us ∧ QA K ns G us ds) ds where
  mono := fun G G' s p => ⟨SqT.same s p.1, QA.mono s _ _ p.2⟩
  go := fun G H i d p s e => by
    obtain ⟨v, ev, q⟩ := p.2.get e
    exact ⟨us, v, SqT.same s.same p.1, ev⟩
  yld := fun G H i d x H' p s e y => by
    obtain ⟨rfl, y⟩ := y
    obtain ⟨v, ev, q⟩ := p.2.get e
    have := y us (SqT.same s.same p.1)
    rw [ev] at this
    cases this
    exact ⟨G, Gr.refl s, q⟩
  stop := fun G H p s => ⟨us, SqT.same s.same p.1, Nat.le_of_eq p.2.length⟩
/-- the items of a list, of a tuple -/
def items : D → Option (List D)
  | .list xs => some xs
  | .tuple xs => some xs
  | _ => none
def itE (f : Rho → R D) : Rho → R (List D) := fun ρ => (f ρ).bind fun d => R.of (items d)
theorem pi_either {tg e : Expr} {te : TE} (h : PE X e te) : PI X tg e (fun σ H R => iList X.K te σ H R ∨ iTup X.K te σ H R) := ⟨fun pins s σ H R I hw => by
  rcases hw with hw | hw
  · exact (pi_list h).run pins s σ H R I hw
  · exact (pi_tup h).run pins s σ H R I hw⟩
theorem mi_of {tg e : Expr} {f : Rho → R D} (h : ME X c W e f) : MI X c W tg e (itE f) := PI.imp (pi_either h) fun σ H Rk ⟨G, ρ, ok, p⟩ => by
  cases ef : f ρ with
  | bad => unfold itE at p; rw [ef] at p; exact p.elim
  | rz z =>
    refine .inl (stepI ok p fun d G1 H1 v e1 g1 r1 ok1 p1 => ?_)
    rw [ef] at e1
    cases e1
  | ok d =>
    cases d with
    | list xs =>
      refine .inl (stepI ok p fun d G1 H1 v e1 g1 r1 ok1 p1 => ?_)
      rw [ef] at e1
      cases e1
      cases r1 with
      | lst h1 h2 => exact ⟨_, rfl, ⟨_, SqL.of (ok1.s _ _ h1).1⟩, p1 G1 H1 _ _ (Gr.refl ok1.s) it_list ⟨h1, h2⟩⟩
    | tuple xs =>
      refine .inr (stepI ok p fun d G1 H1 v e1 g1 r1 ok1 p1 => ?_)
      rw [ef] at e1
      cases e1
      cases r1 with
      | tup h1 h2 => exact ⟨_, rfl, ⟨_, SqT.same ok1.s.same h1⟩, p1 G1 H1 _ _ (Gr.refl ok1.s) it_tup ⟨h1, h2⟩⟩
    | _ => unfold itE at p; rw [ef] at p; exact p.elim
/-- lo, lo + 1, .. -/
def rng (lo : Int) (n : Nat) : List D := (List.range n).map fun (i : Nat) => .int (lo + (i : Int))
theorem it_rng {K : PySem.W.Frag} {ns : Sc} {lo : Int} {n : Nat} : ItOk K ns (Itr lo n) (fun _ => True) (rng lo n) where
  mono := fun _ _ _ _ => trivial
  go := fun G H i d p s e => by
    have := (List.getElem?_eq_some_iff.mp e).1
    show i < n
    simpa [rng] using this
  yld := fun G H i d x H' p s e y => by
    obtain ⟨rfl, rfl⟩ := y
    refine ⟨G, Gr.refl s, ?_⟩
    have hi := (List.getElem?_eq_some_iff.mp e).1
    simp only [rng, List.length_map, List.length_range] at hi
    rw [rng, List.getElem?_map, List.getElem?_range hi] at e
    cases e
    exact .int _
  stop := fun G H p s => by
    show n ≤ (rng lo n).length
    simp [rng]
def rg1 (f : Rho → R D) : Rho → R (List D) := fun ρ => (f ρ).bind fun d => match d with
  | .int j => if -1000000000 ≤ j ∧ j ≤ 1000000000 then .ok (rng 0 j.toNat) else .bad
  | _ => .bad
def rg2 (f g : Rho → R D) : Rho → R (List D) := fun ρ => (f ρ).bind fun d => (g ρ).bind fun e => match d, e with
  | .int i, .int j => if -1000000000 ≤ i ∧ i ≤ 1000000000 ∧ -1000000000 ≤ j ∧ j ≤ 1000000000 then .ok (rng i (j - i).toNat) else .bad
  | _, _ => .bad
theorem mi_range1 {tg a : Expr} {f : Rho → R D} {p pos : Pos} (hg : Gl X "range") (hm : X.mg "range" = none) (ha : MB X c W a f) (hs1 : starEach [a] X.env = (false, eval a X.env) :: starEach [] X.env := by rfl) (hs : starEach [a] X.env = [(false, eval a X.env)] := by rfl) :
    MI X c W tg (.Call (.Name "range" p) [a] [] pos) (rg1 f) := PI.imp (pi_range1 hg hm (pa_cons ha pa_nil hs1) hs) fun σ H Rk ⟨G, ρ, ok, p⟩ => stepI ok p fun d G1 H1 v e1 g1 r1 ok1 p1 => by
  split at p1
  · rename_i j
    split at p1
    · rename_i hj
      obtain rfl := r1.int
      exact ⟨_, rfl, by omega, by omega, p1 G1 H1 _ _ (Gr.refl ok1.s) it_rng trivial⟩
    · exact p1.elim
  · exact p1.elim
theorem mi_range2 {tg a b : Expr} {f g : Rho → R D} {p pos : Pos} (hg : Gl X "range") (hm : X.mg "range" = none) (ha : MB X c W a f) (hb : MB X c W b g) (hs1 : starEach [a, b] X.env = (false, eval a X.env) :: starEach [b] X.env := by rfl) (hs2 : starEach [b] X.env = (false, eval b X.env) :: starEach [] X.env := by rfl)
    (hs : starEach [a, b] X.env = [(false, eval a X.env), (false, eval b X.env)] := by rfl) (hs3 : starEach [b] X.env = [(false, eval b X.env)] := by rfl) :
    MI X c W tg (.Call (.Name "range" p) [a, b] [] pos) (rg2 f g) := PI.imp (pi_range2 hg hm (pa_cons ha (pa_cons hb pa_nil hs2) hs1) hs hs3) fun σ H Rk ⟨G, ρ, ok, p⟩ => stepI ok p fun d G1 H1 v e1 g1 r1 ok1 p1 => stepI ok1 p1 fun d2 G2 H2 v2 e2 g2 r2 ok2 p2 => by
  split at p2
  · rename_i i j
    split at p2
    · rename_i hj
      obtain rfl := r1.int
      obtain rfl := r2.int
      exact ⟨_, _, rfl, by omega, p2 G2 H2 _ _ (Gr.refl ok2.s) it_rng trivial⟩
    · exact p2.elim
  · exact p2.elim
/-! zip, enumerate -/
def zipD (xs ys : List D) : List D := List.zipWith (fun x y => .tuple [x, y]) xs ys
theorem zip_get {xs ys : List D} {i : Nat} {d : D} (h : (zipD xs ys)[i]? = some d) : ∃ x y, xs[i]? = some x ∧ ys[i]? = some y ∧ d = .tuple [x, y] := by
  unfold zipD at h
  rw [List.getElem?_zipWith] at h
  split at h
  · rename_i x y e1 e2
    cases h
    exact ⟨x, y, e1, e2, rfl⟩
  · cases h
theorem pair_new {K : PySem.W.Frag} {ns : Sc} {G H : Hp} {T : Addr} {x y : V} {dx dy : D} (s : Sub G H) (hT : H T = none) (qx : Q K ns G x dx) (qy : Q K ns G y dy) : ∃ G', Gr G H G' (upd H T (.tup [x, y])) ∧ Q K ns G' (.ref T) (.tuple [dx, dy]) :=
  have sm := new_same (o := .tup [x, y]) (s.free hT)
  ⟨upd G T (.tup [x, y]), Gr.new s hT nt_tup, .tup (.inl (.inl upd_same)) (.cons (Q.mono sm _ _ qx) (.cons (Q.mono sm _ _ qy) .nil))⟩
theorem it_zipL {K : PySem.W.Frag} {ns : Sc} {a b : Addr} {us ws : List V} {xs ys : List D} : ItOk K ns (Itz K a b) (fun G => (G a = some (.lst us) ∧ QA K ns G us xs) ∧ G b = some (.lst ws) ∧ QA K ns G ws ys) (zipD xs ys) where
  mono := fun G G' s p => ⟨⟨s _ _ p.1.1, QA.mono s _ _ p.1.2⟩, s _ _ p.2.1, QA.mono s _ _ p.2.2⟩
  go := fun G H i d p s e => by
    obtain ⟨x, y, e1, e2, rfl⟩ := zip_get e
    obtain ⟨v, ev, q⟩ := p.1.2.get e1
    obtain ⟨w, ew, r⟩ := p.2.2.get e2
    exact ⟨us, ws, v, w, SqL.of (s _ _ p.1.1).1, SqL.of (s _ _ p.2.1).1, ev, ew⟩
  yld := fun G H i d x H' p s e y => by
    obtain ⟨T, v', w', rfl, hT, rfl, h1, h2⟩ := y
    obtain ⟨x, y, e1, e2, rfl⟩ := zip_get e
    obtain ⟨v, ev, q⟩ := p.1.2.get e1
    obtain ⟨w, ew, r⟩ := p.2.2.get e2
    have z1 := h1 us (SqL.of (s _ _ p.1.1).1)
    have z2 := h2 ws (SqL.of (s _ _ p.2.1).1)
    rw [ev] at z1
    rw [ew] at z2
    cases z1
    cases z2
    exact pair_new s hT q r
  stop := fun G H p s => ⟨us, ws, SqL.of (s _ _ p.1.1).1, SqL.of (s _ _ p.2.1).1, by
    rw [p.1.2.length, p.2.2.length]
    unfold zipD
    rw [List.length_zipWith]
    omega⟩
theorem it_zipT {K : PySem.W.Frag} {ns : Sc} {a b : Addr} {us ws : List V} {xs ys : List D} : ItOk K ns (RZ.ItzT K a b) (fun G => (SqT K G a us ∧ QA K ns G us xs) ∧ SqT K G b ws ∧ QA K ns G ws ys) (zipD xs ys) where
  mono := fun G G' s p => ⟨⟨SqT.same s p.1.1, QA.mono s _ _ p.1.2⟩, SqT.same s p.2.1, QA.mono s _ _ p.2.2⟩
  go := fun G H i d p s e => by
    obtain ⟨x, y, e1, e2, rfl⟩ := zip_get e
    obtain ⟨v, ev, q⟩ := p.1.2.get e1
    obtain ⟨w, ew, r⟩ := p.2.2.get e2
    exact ⟨us, ws, v, w, SqT.same s.same p.1.1, SqT.same s.same p.2.1, ev, ew⟩
  yld := fun G H i d x H' p s e y => by
    obtain ⟨T, v', w', rfl, hT, rfl, h1, h2⟩ := y
    obtain ⟨x, y, e1, e2, rfl⟩ := zip_get e
    obtain ⟨v, ev, q⟩ := p.1.2.get e1
    obtain ⟨w, ew, r⟩ := p.2.2.get e2
    have z1 := h1 us (SqT.same s.same p.1.1)
    have z2 := h2 ws (SqT.same s.same p.2.1)
    rw [ev] at z1
    rw [ew] at z2
    cases z1
    cases z2
    exact pair_new s hT q r
  stop := fun G H p s => ⟨us, ws, SqT.same s.same p.1.1, SqT.same s.same p.2.1, by
    rw [p.1.2.length, p.2.2.length]
    unfold zipD
    rw [List.length_zipWith]
    omega⟩
def zpE (f g : Rho → R D) : Rho → R (List D) := fun ρ => (f ρ).bind fun d => (g ρ).bind fun e => match d, e with
  | .list xs, .list ys => .ok (zipD xs ys)
  | .tuple xs, .tuple ys => .ok (zipD xs ys)
  | _, _ => .bad
theorem mi_zip {a b : Expr} {f g : Rho → R D} {p pos tpos : Pos} {elts : List Expr} {kk : Nat} (hg : Gl X "zip") (hm : X.mg "zip" = none) (ha : ME X c W a f) (hb : ME X c W b g) (hs1 : starEach [a, b] X.env = (false, eval a X.env) :: starEach [b] X.env := by rfl) (hs2 : starEach [b] X.env = (false, eval b X.env) :: starEach [] X.env := by rfl)
    (hpl : (backTo pos (starEach [b] X.env)).any (·.1) = false := by rfl) :
    MI X c W (.Tuple elts kk tpos) (.Call (.Name "zip" p) [a, b] [] pos) (zpE f g) := PI.imp (RZ.pi_zipA hg hm (pa_cons ha (pa_cons hb pa_nil hs2) hs1) hs1 hpl) fun σ H Rk ⟨G, ρ, ok, p⟩ => stepI ok p fun d G1 H1 v e1 g1 r1 ok1 p1 => stepI ok1 p1 fun d2 G2 H2 v2 e2 g2 r2 ok2 p2 => by
  have r1 := Q.mono g2.g _ _ r1
  split at p2
  · cases r1 with
    | lst h1 h2 =>
      cases r2 with
      | lst h3 h4 => exact ⟨_, _, _, _, rfl, .inl ⟨SqL.of (ok2.s _ _ h1).1, SqL.of (ok2.s _ _ h3).1, p2 G2 H2 _ _ (Gr.refl ok2.s) it_zipL ⟨⟨h1, h2⟩, h3, h4⟩⟩⟩
  · cases r1 with
    | tup h1 h2 =>
      cases r2 with
      | tup h3 h4 => exact ⟨_, _, _, _, rfl, .inr ⟨SqT.same ok2.s.same h1, SqT.same ok2.s.same h3, p2 G2 H2 _ _ (Gr.refl ok2.s) it_zipT ⟨⟨h1, h2⟩, h3, h4⟩⟩⟩
  · exact p2.elim
end

/-! ### targets -/
def TgOk (X : Cx) (c : Cm) (vs : List Nat) (g : TG) (b : D → Rho → Option Rho) : Prop := ∀ (G H : Hp) (σ : L2.St) (ρ : Rho) (x : V) (d : D) (ρ' : Rho) (Qk : L2.St → Hp → Prop), Ok X.K c G H ρ σ → Q X.K c.ns G x d → b d ρ = some ρ' →
  (∀ σ', Ok X.K c G H ρ' σ' → wipe σ' vs = wipe σ vs → Qk σ' H) → g x σ H Qk
def bName (i : Nat) : D → Rho → Option Rho := fun d ρ => some (ρ.set i (.d d))
def bNames : List Nat → List D → Rho → Option Rho
  | [], [], ρ => some ρ
  | i :: is, d :: ds, ρ => bNames is ds (ρ.set i (.d d))
  | _, _, _ => none
def bTup (is : List Nat) : D → Rho → Option Rho
  | .tuple xs, ρ => bNames is xs ρ
  | _, _ => none
theorem wipe_set {σ : L2.St} {i : Nat} {x : Option V} : ∀ {vs : List Nat}, i ∈ vs → wipe (σ.set i x) vs = wipe σ vs
  | [], h => by cases h
  | v :: vs, h => by
    unfold wipe
    by_cases hv : i ∈ vs
    · rw [wipe_set hv]
    · have hi : i = v := by
        rcases List.mem_cons.mp h with z | z
        · exact z
        · exact absurd z hv
      subst hi
      have : ∀ ws : List Nat, i ∉ ws → wipe (σ.set i x) ws = (wipe σ ws).set i x := by
        intro ws
        induction ws with
        | nil => intro _; rfl
        | cons w ws ih =>
          intro hw
          simp only [List.mem_cons, not_or] at hw
          unfold wipe
          rw [ih hw.2, List.set_comm _ _ hw.1]
      rw [this vs hv, List.set_set]
def wip (vs : List Nat) (ρ : Rho) : Rho := match vs with
  | [] => ρ
  | v :: vs => (wip vs ρ).set v .no
section
variable {X : Cx} {c : Cm} {W : WM}
theorem Ok.no {K : PySem.W.Frag} {G H : Hp} {ρ : Rho} {σ : L2.St} (h : Ok K c G H ρ σ) (i : Nat) : Ok K c G H (ρ.set i .no) (σ.set i none) := by
  refine ⟨h.s, h.e, by simp [h.len], fun j x e => ?_, fun j k a xs ys e1 e2 e3 e4 => ?_⟩
  · rcases getset e with ⟨rfl, rfl, hl⟩ | ⟨hj, e'⟩
    · trivial
    · rw [List.getElem?_set_ne hj]
      exact h.sl j x e'
  · rcases getset e1 with ⟨_, z, _⟩ | ⟨hj, e1'⟩
    · cases z
    · rcases getset e2 with ⟨_, z, _⟩ | ⟨hk, e2'⟩
      · cases z
      · rw [List.getElem?_set_ne hj] at e3
        rw [List.getElem?_set_ne hk] at e4
        exact h.dj j k a xs ys e1' e2' e3 e4
theorem Ok.wip {K : PySem.W.Frag} {G H : Hp} {ρ : Rho} {σ : L2.St} (h : Ok K c G H ρ σ) : ∀ vs : List Nat, Ok K c G H (wip vs ρ) (wipe σ vs)
  | [] => h
  | v :: vs => (Ok.wip h vs).no v
theorem wip_own {ρ : Rho} {j : Nat} {ys : List D} : ∀ {vs : List Nat}, (wip vs ρ)[j]? = some (.o ys) → ρ[j]? = some (.o ys)
  | [], h => h
  | v :: vs, h => by
    unfold M.wip at h
    rcases getset h with ⟨_, z, _⟩ | ⟨_, e⟩
    · cases z
    · exact wip_own e
theorem tg_name {vs : List Nat} (i : Nat) (hi : i ∈ vs := by simp) : TgOk X c vs (gName i) (bName i) := fun G H σ ρ x d ρ' Qk ok q e k => by
  cases e
  exact k _ (ok.setD i q) (wipe_set hi)
def TgsOk (X : Cx) (c : Cm) (vs : List Nat) (g : TGs) (is : List Nat) : Prop := ∀ (G H : Hp) (σ : L2.St) (ρ : Rho) (xs : List V) (ds : List D) (ρ' : Rho) (Qk : L2.St → Hp → Prop), Ok X.K c G H ρ σ → QA X.K c.ns G xs ds → bNames is ds ρ = some ρ' →
  (∀ σ', Ok X.K c G H ρ' σ' → wipe σ' vs = wipe σ vs → Qk σ' H) → g xs σ H Qk
theorem tgs_nil {vs : List Nat} : TgsOk X c vs gNil [] := fun G H σ ρ xs ds ρ' Qk ok q e k => by
  cases q with
  | nil => cases e; exact ⟨rfl, k σ ok rfl⟩
  | cons _ _ => cases e
theorem tgs_cons {vs : List Nat} (i : Nat) {g : TGs} {is : List Nat} (h : TgsOk X c vs g is) (hi : i ∈ vs := by simp) : TgsOk X c vs (gCons (gName i) g) (i :: is) := fun G H σ ρ xs ds ρ' Qk ok q e k => by
  cases q with
  | nil => cases e
  | cons q1 q2 => exact ⟨_, _, rfl, h G H _ _ _ _ ρ' Qk (ok.setD i q1) q2 e fun σ' ok' w => k σ' ok' (w.trans (wipe_set hi))⟩
theorem bNames_len : ∀ {is : List Nat} {ds : List D} {ρ ρ' : Rho}, bNames is ds ρ = some ρ' → ds.length = is.length
  | [], [], _, _, _ => rfl
  | i :: is, d :: ds, ρ, ρ', h => by
    have := bNames_len (is := is) (ds := ds) (ρ := ρ.set i (.d d)) (ρ' := ρ') h
    simp [this]
  | [], _ :: _, _, _, h => by cases h
  | _ :: _, [], _, _, h => by cases h
theorem tg_tup {vs : List Nat} {g : TGs} {is : List Nat} {n : Nat} (h : TgsOk X c vs g is) (hn : is.length = n := by rfl) : TgOk X c vs (gTup X.K n g) (bTup is) := fun G H σ ρ x d ρ' Qk ok q e k => by
  cases d with
  | tuple ds =>
    cases q with
    | tup h1 h2 => exact ⟨_, _, rfl, SqT.same ok.s.same h1, by rw [h2.length, bNames_len e, hn], h G H σ ρ _ ds ρ' Qk ok h2 e k⟩
  | _ => cases e
/-! ### for -/
def forL (b : D → Rho → Option Rho) (body : Rho → Out) : List D → Rho → Out
  | [], ρ => .nx ρ
  | x :: xs, ρ => match b x ρ with
    | none => .bad
    | some ρ1 => match body ρ1 with
      | .nx ρ' => forL b body xs ρ'
      | .ct ρ' => forL b body xs ρ'
      | .bk ρ' => .nx ρ'
      | .rt x => .rt x
      | .rf x => .rf x
      | .rz z ρ' => .rz z ρ'
      | .bad => .bad
def sFor (it : Rho → R (List D)) (b : D → Rho → Option Rho) (body : Rho → Out) : Rho → Out := fun ρ => (it ρ).out ρ fun xs => forL b body xs ρ
theorem stepSI {K : PySem.W.Frag} {G H : Hp} {σ : L2.St} {ρ : Rho} {De : Ends} {f : Rho → R (List D)} {F : List D → Out} {k : It → Hp → Prop} (ok : Ok K c G H ρ σ) (h : PostS K c W G De ((f ρ).out ρ F))
    (hk : ∀ xs G' H' J P, f ρ = .ok xs → Gr G H G' H' → ItOk K c.ns J P xs → P G' → Ok K c G' H' ρ σ → PostS K c W G' De (F xs) → k J H') : tIt K c W f σ H k := by
  refine ⟨G, ρ, ok, ?_⟩
  cases e : f ρ with
  | ok xs =>
    rw [e] at h
    exact fun G' H' J P g i p => hk xs G' H' J P e g i p (ok.gr g) (PostS.gr (o := F xs) h g.g)
  | rz z =>
    rw [e] at h
    exact fun G' H' g => h G' H' σ g.g (ok.gr g)
  | bad => rw [e] at h; exact h.elim
theorem ms_for {tg iter : Expr} {body : List Stmt} {it : Rho → R (List D)} {g : TG} {b : D → Rho → Option Rho} {fb : Rho → Out} {vs : List Nat} {pos : Pos} (hp : PassesOwn (model X.prog X.w) X.A X.env X.xe) (hc : X.calm = true) (hi : MI X c W tg iter it) (hg : PG X tg g) (tk : TgOk X c vs g b) (hb : MSs X c W body fb)
    (hs : ∀ x, foldedSetIterable iter X.env x = pure x := by intro _; rfl) : MS X c W (.For tg iter body [] pos) (sFor it b fb) :=
  PS.imp (ps_for hp hc hi hg hb hs) fun De σ H ⟨G, ρ, ok, p⟩ => stepSI ok p fun xs G1 H1 J P _ g1 I pG ok1 p1 => by
    refine ⟨fun i m σ H => i ≤ xs.length ∧ m = xs.length - i ∧ ∃ G ρ, Ok X.K c G H ρ σ ∧ P G ∧ PostS X.K c W G De (forL b fb (xs.drop i) ρ), ⟨xs.length, Nat.zero_le _, by simp, G1, ρ, ok1, pG, p1⟩, ?_⟩
    rintro i m σ H ⟨hi, rfl, G, ρ, ok, pG, p⟩
    by_cases hlt : i < xs.length
    · have ed : xs.drop i = xs[i] :: xs.drop (i + 1) := List.drop_eq_getElem_cons hlt
      have ex : xs[i]? = some xs[i] := List.getElem?_eq_getElem hlt
      rw [ed] at p
      refine .inr ⟨I.go G H i _ pG ok.s ex, fun σ' H' => ∃ G ρ, Ok X.K c G H' ρ σ' ∧ P G ∧ PostS X.K c W G De (forL b fb (xs.drop (i + 1)) ρ), fun σ' H' n => ⟨xs.length - (i + 1), by omega, hlt, rfl, n⟩, fun x H' y => ?_⟩
      obtain ⟨G', gr, q⟩ := I.yld G H i _ x H' pG ok.s ex y
      have ok' := ok.gr gr
      unfold forL at p
      cases eb : b xs[i] ρ with
      | none => rw [eb] at p; exact p.elim
      | some ρ1 =>
        rw [eb] at p
        dsimp only at p
        refine tk G' H' σ ρ x _ ρ1 _ ok' q eb fun σ' ok2 _ => ⟨G', ρ1, ok2, ?_⟩
        have pG' := I.mono G G' gr.g pG
        cases eo : fb ρ1 with
        | nx ρ2 =>
          rw [eo] at p
          exact fun G2 H2 σ2 s ok3 => ⟨G2, ρ2, ok3, I.mono _ _ s pG', PostS.gr (o := forL b fb (xs.drop (i + 1)) ρ2) p (gr.g.trans s)⟩
        | ct ρ2 =>
          rw [eo] at p
          exact fun G2 H2 σ2 s ok3 => ⟨G2, ρ2, ok3, I.mono _ _ s pG', PostS.gr (o := forL b fb (xs.drop (i + 1)) ρ2) p (gr.g.trans s)⟩
        | bk ρ2 =>
          rw [eo] at p
          exact fun G2 H2 σ2 s ok3 => p G2 H2 σ2 (gr.g.trans s) ok3
        | rt x => rw [eo] at p; exact p
        | rf x => rw [eo] at p; exact p
        | rz z ρ2 =>
          rw [eo] at p
          exact fun G2 H2 σ2 s ok3 => p G2 H2 σ2 (gr.g.trans s) ok3
        | bad => rw [eo] at p; exact p
    · have e : i = xs.length := by omega
      subst e
      rw [List.drop_length] at p
      exact .inl ⟨I.stop G H pG ok.s, p G H σ (Same.refl G) ok⟩
/-! ### while -/
def whL (t : Rho → R Bool) (body : Rho → Out) : Nat → Rho → Out
  | 0, _ => .bad
  | n + 1, ρ => (t ρ).out ρ fun b => if b then (match body ρ with
      | .nx ρ' => whL t body n ρ'
      | .ct ρ' => whL t body n ρ'
      | .bk ρ' => .nx ρ'
      | .rt x => .rt x
      | .rf x => .rf x
      | .rz z ρ' => .rz z ρ'
      | .bad => .bad) else .nx ρ
theorem ms_while (n : Nat) {t : Expr} {body : List Stmt} {ft : Rho → R Bool} {fb : Rho → Out} {pos : Pos} (hp : PassesOwn (model X.prog X.w) X.A X.env X.xe) (ht : MT X c W t ft) (hb : MSs X c W body fb) : MS X c W (.While t body [] pos) (whL ft fb n) :=
  PS.imp (ps_while hp ht hb) fun De σ H ⟨G, ρ, ok, p⟩ => by
    refine ⟨fun m σ H => ∃ G ρ, Ok X.K c G H ρ σ ∧ PostS X.K c W G De (whL ft fb m ρ), ⟨n, G, ρ, ok, p⟩, ?_⟩
    rintro m σ H ⟨G, ρ, ok, p⟩
    cases m with
    | zero => exact p.elim
    | succ m =>
      unfold whL at p
      refine stepS ok p fun b G1 H1 v _ g1 r1 ok1 p1 => ?_
      subst r1
      cases v with
      | false => exact p1 G1 H1 σ (Same.refl G1) ok1
      | true =>
        refine ⟨fun σ' H' => ∃ G ρ, Ok X.K c G H' ρ σ' ∧ PostS X.K c W G De (whL ft fb m ρ), fun σ' H' n => ⟨m, Nat.lt_succ_self m, n⟩, G1, ρ, ok1, ?_⟩
        rw [if_pos rfl] at p1
        cases eo : fb ρ with
        | nx ρ2 =>
          rw [eo] at p1
          exact fun G2 H2 σ2 s ok3 => ⟨G2, ρ2, ok3, PostS.gr (o := whL ft fb m ρ2) p1 s⟩
        | ct ρ2 =>
          rw [eo] at p1
          exact fun G2 H2 σ2 s ok3 => ⟨G2, ρ2, ok3, PostS.gr (o := whL ft fb m ρ2) p1 s⟩
        | bk ρ2 => rw [eo] at p1; exact p1
        | rt x => rw [eo] at p1; exact p1
        | rf x => rw [eo] at p1; exact p1
        | rz z ρ2 => rw [eo] at p1; exact p1
        | bad => rw [eo] at p1; exact p1
end
end M

namespace M
open PySem PySem.Spec PyProof.Rows L2

/-! ### a list that is being made -/
theorem tabs_poke {H : Hp} {a : Addr} {us ws : List V} (ha : H a = some (.lst us)) {T : Addr} (t : TabQ H T) : TabQ (upd H a (.lst ws)) T := by
  obtain ⟨ps, t1, t2, t3⟩ := t
  refine ⟨ps, by rw [upd_ne (fun z => by rw [z, ha] at t1; cases t1)]; exact t1, t2, fun pos cv hc => ?_⟩
  obtain ⟨cc, c1, c2⟩ := t3 pos cv hc
  exact ⟨cc, c1, by rw [upd_ne (fun z => by rw [z, ha] at c2; cases c2)]; exact c2⟩
section
variable {K : PySem.W.Frag} {c : Cm} {G H G1 H1 : Hp} {ρ : Rho} {σ : L2.St} {a : Addr} {us ws : List V}
theorem Sub.poke (s : Sub G H) (ga : G a = none) : Sub G (upd H a (.lst ws)) := fun b o hg => by
  rw [upd_ne (fun z => by subst z; rw [ga] at hg; cases hg)]
  exact s b o hg
theorem Gr.poke (g : Gr G1 H1 G H) (n : Nw H1 a) (ha : H a = some (.lst us)) (ga : G a = none) : Gr G1 H1 G (upd H a (.lst ws)) :=
  ⟨g.g, ⟨fun b o e ht => by rw [upd_ne (fun z => by subst z; exact n o e ht)]; exact g.h.keep b o e ht, fun T t => tabs_poke ha (g.h.tabs T t)⟩, g.s.poke ga, g.n⟩
theorem Ok.poke (h : Ok K c G H ρ σ) (ha : H a = some (.lst us)) (ga : G a = none) (n0 : Nw c.H0 a) (ap : ∀ (j : Nat) (ys : List D), ρ[j]? = some (Sl.o ys) → σ[j]? ≠ some (some (V.ref a))) : Ok K c G (upd H a (.lst ws)) ρ σ :=
  ⟨h.s.poke ga, h.e.poke n0 ha ga, h.len, fun j x e => by
    have := h.sl j x e
    cases x with
    | no => trivial
    | d x => exact this
    | o ys =>
      obtain ⟨b, vs, e3, hb, gb, nb, qb⟩ := this
      exact ⟨b, vs, e3, by rw [upd_ne (fun z => ap j ys e (by rw [← z]; exact e3))]; exact hb, gb, nb, qb⟩, h.dj⟩
theorem Gr.seal (g : Gr G1 H1 G H) (n : Nw H1 a) (ha : H a = some (.lst us)) (ga : G a = none) : Gr G1 H1 (upd G a (.lst us)) H :=
  ⟨g.g.trans (new_same ga), g.h, fun b o e => by
    by_cases z : b = a
    · subst z
      rw [upd_same] at e
      cases e
      exact ⟨ha, nt_lst⟩
    · rw [upd_ne z] at e
      exact g.s b o e, fun b o e ht gb => by
    rw [upd_ne (fun z => by subst z; exact n o e ht)]
    exact g.n b o e ht gb⟩
end

theorem wipe_wipe {σ : L2.St} {vs : List Nat} : ∀ us : List Nat, (∀ u ∈ us, u ∈ vs) → wipe (wipe σ us) vs = wipe σ vs
  | [], _ => rfl
  | u :: us, h => by
    have e : wipe σ (u :: us) = (wipe σ us).set u none := rfl
    rw [e, wipe_set (h u (by simp)), wipe_wipe us fun x hx => h x (by simp [hx])]
/-! ### comprehensions -/
def lcL (b : D → Rho → Option Rho) (t : Rho → R Bool) (f : Rho → R D) (ρ : Rho) : List D → Option (List D)
  | [] => some []
  | x :: xs => match b x ρ with
    | none => none
    | some ρ1 => match t ρ1 with
      | .ok false => lcL b t f ρ xs
      | .ok true => match f ρ1 with
        | .ok y => match lcL b t f ρ xs with
          | some ys => some (y :: ys)
          | none => none
        | _ => none
      | _ => none
def lcE (vs : List Nat) (it : Rho → R (List D)) (b : D → Rho → Option Rho) (t : Rho → R Bool) (f : Rho → R D) : Rho → R (List D) := fun ρ => (it ρ).bind fun xs => if xs.length ≤ 1000000 then R.of (lcL b t f (wip vs ρ) xs) else .bad
def lcD (f : Rho → R (List D)) : Rho → R D := fun ρ => (f ρ).bind fun xs => .ok (.list xs)
section
variable {X : Cx} {c : Cm} {W : WM}
theorem lc_walk {K : PySem.W.Frag} (hK : X.K = K) {g : TG} {b : D → Rho → Option Rho} {ft : Rho → R Bool} {f : Rho → R D} {vs : List Nat} {tt : TT} {te : TE} (tk : TgOk X c vs g b)
    (ht : ∀ σ H Q, tR K c W0 RelT ft σ H Q → tt σ H Q) (he : ∀ σ H Q, tR K c W0 (RelQ K c.ns) f σ H Q → te σ H Q)
    {J : It} {P : Hp → Prop} {xs all : List D} (I : ItOk K c.ns J P xs) {G1 H1 : Hp} {ρ : Rho} {σ : L2.St} (ok1 : Ok K c G1 H1 ρ σ) (pG : P G1) (hz : xs.length ≤ 1000000) (ha : lcL b ft f (wip vs ρ) xs = some all) {Da : Addr} (hD : H1 Da = none) {Qd : Hp → Prop}
    (hq : ∀ G' H' us, Gr G1 H1 G' H' → Nw H1 Da → H' Da = some (.lst us) → G' Da = none → QA K c.ns G' us all → Qd H') :
    ∃ Wv : Nat → Nat → Hp → Prop, (∃ m, Wv 0 m (upd H1 Da (.lst []))) ∧ ∀ i m H, Wv i m H → (J.stop i H ∧ Qd H) ∨ (J.go i H ∧ ∃ Nx : Hp → Prop, (∀ H', Nx H' → ∃ m', m' < m ∧ Wv (i + 1) m' H') ∧ ∀ x H', J.yld i H x H' → g x (wipe σ vs) H' fun σ2 H2 => wipe σ2 vs = wipe σ vs ∧ tt σ2 H2 fun b H3 =>
    if b = true then te σ2 H3 fun y H4 => ∃ acc, H4 Da = some (.lst acc) ∧ acc.length < sizeLine ∧ Nx (upd H4 Da (.lst (acc ++ [y]))) else Nx H3) := by
  subst hK
  have nD : Nw H1 Da := Nw.none hD
  have n0 : Nw c.H0 Da := nD.of ok1.e.h
  have ap : ∀ (j : Nat) (ys : List D), (wip vs ρ)[j]? = some (Sl.o ys) → (wipe σ vs)[j]? ≠ some (some (V.ref Da)) := fun j ys e z => ok1.apart nD (wip_own e) (wipe_some z).1
  let Inv' : Nat → Hp → Prop := fun i H => ∃ G us ys zs, Gr G1 H1 G H ∧ Ok X.K c G H (wip vs ρ) (wipe σ vs) ∧ P G ∧ H Da = some (.lst us) ∧ G Da = none ∧ QA X.K c.ns G us ys ∧ ys.length ≤ i ∧ lcL b ft f (wip vs ρ) (xs.drop i) = some zs ∧ all = ys ++ zs
  refine ⟨fun i m H => i ≤ xs.length ∧ m = xs.length - i ∧ Inv' i H, ⟨xs.length, Nat.zero_le _, by simp, G1, [], [], all, Gr.own ok1.s hD, (ok1.wip vs).gr (Gr.own ok1.s hD), pG, upd_same, ok1.s.free hD, .nil, Nat.zero_le _, ha, rfl⟩, ?_⟩
  rintro i m H ⟨hi, rfl, G, us, ys, zs, gr, ok, pG, hd, gd, q, hl, hz', hall⟩
  by_cases hlt : i < xs.length
  · have ed : xs.drop i = xs[i] :: xs.drop (i + 1) := List.drop_eq_getElem_cons hlt
    have ex : xs[i]? = some xs[i] := List.getElem?_eq_getElem hlt
    rw [ed] at hz'
    refine .inr ⟨I.go G H i _ pG ok.s ex, Inv' (i + 1), fun H' n => ⟨xs.length - (i + 1), by omega, hlt, rfl, n⟩, fun x H' y => ?_⟩
    obtain ⟨G', gr', q'⟩ := I.yld G H i _ x H' pG ok.s ex y
    unfold lcL at hz'
    cases eb : b xs[i] (wip vs ρ) with
    | none => rw [eb] at hz'; cases hz'
    | some ρ1 =>
      rw [eb] at hz'
      dsimp only at hz'
      refine tk G' H' _ _ x _ ρ1 _ (ok.gr gr') q' eb fun σ2 ok2 hw => ⟨hw.trans (wipe_wipe vs fun _ z => z), ht _ _ _ ⟨G', ρ1, ok2, ?_⟩⟩
      cases et : ft ρ1 with
      | rz z => rw [et] at hz'; cases hz'
      | bad => rw [et] at hz'; cases hz'
      | ok bv =>
        intro G3 H3 v g3 r3
        subst r3
        have grT := (gr.trans gr').trans g3
        have pG3 := I.mono _ _ (gr'.g.trans g3.g) pG
        have okT := (ok.gr gr').gr g3
        have hd3 := g3.h.keep _ _ (gr'.h.keep _ _ hd nt_lst) nt_lst
        have gd3 := g3.n _ _ (gr'.h.keep _ _ hd nt_lst) nt_lst (gr'.n _ _ hd nt_lst gd)
        have q3 := QA.mono (gr'.g.trans g3.g) _ _ q
        cases v with
        | false =>
          rw [et] at hz'
          exact ⟨G3, us, ys, zs, grT, okT, pG3, hd3, gd3, q3, by omega, hz', hall⟩
        | true =>
          rw [et] at hz'
          dsimp only at hz'
          rw [if_pos rfl]
          refine he _ _ _ ⟨G3, ρ1, ok2.gr g3, ?_⟩
          cases ef : f ρ1 with
          | rz z => rw [ef] at hz'; cases hz'
          | bad => rw [ef] at hz'; cases hz'
          | ok y' =>
            rw [ef] at hz'
            dsimp only at hz'
            intro G4 H4 v4 g4 r4
            cases el : lcL b ft f (wip vs ρ) (xs.drop (i + 1)) with
            | none => rw [el] at hz'; cases hz'
            | some zs' =>
              rw [el] at hz'
              cases hz'
              have hd4 := g4.h.keep _ _ hd3 nt_lst
              have gd4 := g4.n _ _ hd3 nt_lst gd3
              have q4 := QA.mono g4.g _ _ q3
              refine ⟨us, hd4, szl (by rw [q4.length]; omega), G4, us ++ [v4], ys ++ [y'], zs', (grT.trans g4).poke nD hd4 gd4, (okT.gr g4).poke hd4 gd4 n0 ap, I.mono _ _ g4.g pG3, upd_same, gd4, q4.append (.cons r4 .nil), by simp; omega, el, by simp [hall]⟩
  · have e : i = xs.length := by omega
    subst e
    rw [List.drop_length] at hz'
    cases hz'
    rw [List.append_nil] at hall
    subst hall
    exact .inl ⟨I.stop G H pG ok.s, hq G H us gr nD hd gd q⟩
def yes : Rho → R Bool := cst true
theorem yes_ok {K : PySem.W.Frag} {σ : L2.St} {H : Hp} {Q : Bool → Hp → Prop} (h : tR K c W0 RelT yes σ H Q) : tYes σ H Q := by
  obtain ⟨G, ρ, ok, p⟩ := h
  exact p G H true (Gr.refl ok.s) rfl
/-- [e for .. in .. if ..], as data -/
theorem me_lc {elt tg iter : Expr} {ifs : List Expr} {scope : Scope} {own : List (Str × Nat)} {pos : Pos} {it : Rho → R (List D)} {g : TG} {b : D → Rho → Option Rho} {ft : Rho → R Bool} {f : Rho → R D} {tt : TT} (hc : X.calm = true) (hN : X.N.Nodup) (hi : MI X c W tg iter it) (okb : BlkOk X.N X.env.scope scope own)
    (hg : ∀ (s : Shared) (H : Hp) (C : Addr) (cl : List (Str × Addr)) (fp : List Addr), PG (X.blk s H scope (compEnvC scope cl C X.env) fp) tg g) (tk : TgOk X c (own.map (·.2)) g b) (ht : ∀ (s : Shared) (H : Hp) (C : Addr) (cl : List (Str × Addr)) (fp : List Addr), PTs (X.blk s H scope (compEnvC scope cl C X.env) fp) ifs tt) (htt : ∀ σ H Q, tR X.K c W0 RelT ft σ H Q → tt σ H Q)
    (he : ∀ (s : Shared) (H : Hp) (C : Addr) (cl : List (Str × Addr)) (fp : List Addr), ME (X.blk s H scope (compEnvC scope cl C X.env) fp) c W0 elt f) (hs : ∀ x, foldedSetIterable iter X.env x = pure x := by intro _; rfl) :
    ME X c W (.ListComp elt [⟨tg, iter, ifs, 0⟩] scope pos) (lcD (lcE (own.map (·.2)) it b ft f)) :=
  PE.imp (pe_lc hc hN hi okb hg ht he hs) fun σ H Qk ⟨G, ρ, ok, p⟩ => by
    refine ⟨G, ρ, ok, ?_⟩
    unfold lcD lcE at p
    cases e : it ρ with
    | bad => rw [e] at p; exact p.elim
    | rz z => rw [e] at p; exact p
    | ok xs =>
      rw [e] at p
      intro G1 H1 J P g1 I pG Da hD
      change Post W (RelQ X.K c.ns) G H σ Qk (R.bind (if xs.length ≤ 1000000 then R.of (lcL b ft f (wip (own.map (·.2)) ρ) xs) else .bad) _) at p
      by_cases hz : xs.length ≤ 1000000
      · rw [if_pos hz] at p
        cases ha : lcL b ft f (wip (own.map (·.2)) ρ) xs with
        | none => rw [ha] at p; exact p.elim
        | some all =>
          rw [ha] at p
          exact lc_walk rfl tk htt (fun _ _ _ z => z) I (ok.gr g1) pG hz ha hD fun G' H' us g' n hd gd q => p (upd G' Da (.lst us)) H' _ (g1.trans (g'.seal n hd gd)) (.lst upd_same (QA.mono (new_same gd) _ _ q))
      · rw [if_neg hz] at p; exact p.elim
/-- .. as a list of one's own -/
theorem mn_lc {elt tg iter : Expr} {ifs : List Expr} {scope : Scope} {own : List (Str × Nat)} {pos : Pos} {it : Rho → R (List D)} {g : TG} {b : D → Rho → Option Rho} {ft : Rho → R Bool} {f : Rho → R D} {tt : TT} (hc : X.calm = true) (hN : X.N.Nodup) (hi : MI X c W tg iter it) (okb : BlkOk X.N X.env.scope scope own)
    (hg : ∀ (s : Shared) (H : Hp) (C : Addr) (cl : List (Str × Addr)) (fp : List Addr), PG (X.blk s H scope (compEnvC scope cl C X.env) fp) tg g) (tk : TgOk X c (own.map (·.2)) g b) (ht : ∀ (s : Shared) (H : Hp) (C : Addr) (cl : List (Str × Addr)) (fp : List Addr), PTs (X.blk s H scope (compEnvC scope cl C X.env) fp) ifs tt) (htt : ∀ σ H Q, tR X.K c W0 RelT ft σ H Q → tt σ H Q)
    (he : ∀ (s : Shared) (H : Hp) (C : Addr) (cl : List (Str × Addr)) (fp : List Addr), ME (X.blk s H scope (compEnvC scope cl C X.env) fp) c W0 elt f) (hs : ∀ x, foldedSetIterable iter X.env x = pure x := by intro _; rfl) :
    MN X c W (.ListComp elt [⟨tg, iter, ifs, 0⟩] scope pos) (nO (lcE (own.map (·.2)) it b ft f)) :=
  PE.imp (pe_lc hc hN hi okb hg ht he hs) fun σ H Qk ⟨G, ρ, ok, p⟩ => by
    refine ⟨G, ρ, ok, ?_⟩
    unfold nO lcE at p
    cases e : it ρ with
    | bad => rw [e] at p; exact p.elim
    | rz z => rw [e] at p; exact p
    | ok xs =>
      rw [e] at p
      intro G1 H1 J P g1 I pG Da hD
      change PostN X.K c W G H σ Qk (R.bind (if xs.length ≤ 1000000 then R.of (lcL b ft f (wip (own.map (·.2)) ρ) xs) else .bad) _) at p
      by_cases hz : xs.length ≤ 1000000
      · rw [if_pos hz] at p
        cases ha : lcL b ft f (wip (own.map (·.2)) ρ) xs with
        | none => rw [ha] at p; exact p.elim
        | some all =>
          rw [ha] at p
          exact lc_walk rfl tk htt (fun _ _ _ z => z) I (ok.gr g1) pG hz ha hD fun G' H' us g' n hd gd q => p G' H' _ (g1.trans g') ⟨Da, us, rfl, hd, gd, n.of g1.h, q⟩
      · rw [if_neg hz] at p; exact p.elim
/-- y = [..] on one line -/
theorem ms_setLc {i : Nat} {y : Str} {py : Pos} {elt tg iter : Expr} {ifs : List Expr} {scope : Scope} {own : List (Str × Nat)} {pos spos : Pos} {it : Rho → R (List D)} {g : TG} {b : D → Rho → Option Rho} {ft : Rho → R Bool} {f : Rho → R D} {tt : TT} (hc : X.calm = true) (hN : X.N.Nodup) (hy : X.N[i]? = some y) (hyl : X.env.scope.names.lookup y = some .local)
    (hsw : swapsWith (.ListComp elt [⟨tg, iter, ifs, 0⟩] scope pos) (some (.Name y py)) spos.line X.env = pure true) (hi : MI X c W tg iter it) (okb : BlkOk X.N X.env.scope scope own)
    (hg : ∀ (s : Shared) (H : Hp) (C : Addr) (cl : List (Str × Addr)) (fp : List Addr), PG (X.blk s H scope (compEnvC scope cl C X.env) fp) tg g) (tk : TgOk X c (own.map (·.2)) g b) (ht : ∀ (s : Shared) (H : Hp) (C : Addr) (cl : List (Str × Addr)) (fp : List Addr), PTs (X.blk s H scope (compEnvC scope cl C X.env) fp) ifs tt) (htt : ∀ σ H Q, tR X.K c W0 RelT ft σ H Q → tt σ H Q)
    (he : ∀ (s : Shared) (H : Hp) (C : Addr) (cl : List (Str × Addr)) (fp : List Addr), ME (X.blk s H scope (compEnvC scope cl C X.env) fp) c W0 elt f) (hs : ∀ x, foldedSetIterable iter X.env x = pure x := by intro _; rfl) :
    MS X c W (.Assign [.Name y py] (.ListComp elt [⟨tg, iter, ifs, 0⟩] scope pos) spos) (sSet i (nO (lcE (own.map (·.2)) it b ft f))) :=
  PS.imp (ps_setLc hc hN hy hyl hsw hi okb hg ht he hs) fun De σ H ⟨G, ρ, ok, p⟩ => by
    refine ⟨G, ρ, ok, ?_⟩
    unfold sSet nO lcE at p
    cases e : it ρ with
    | bad => rw [e] at p; exact p.elim
    | rz z =>
      rw [e] at p
      exact fun G' H' g => p G' H' σ g.g (ok.gr g)
    | ok xs =>
      rw [e] at p
      intro G1 H1 J P g1 I pG Da hD
      change PostS X.K c W G De (R.out (R.bind (if xs.length ≤ 1000000 then R.of (lcL b ft f (wip (own.map (·.2)) ρ) xs) else .bad) _) ρ _) at p
      by_cases hz : xs.length ≤ 1000000
      · rw [if_pos hz] at p
        cases ha : lcL b ft f (wip (own.map (·.2)) ρ) xs with
        | none => rw [ha] at p; exact p.elim
        | some all =>
          rw [ha] at p
          exact lc_walk rfl tk htt (fun _ _ _ z => z) I (ok.gr g1) pG hz ha hD fun G' H' us g' n hd gd q => p G' H' _ (g1.g.trans g'.g) (ok.new (g1.trans g') i ⟨Da, us, rfl, hd, gd, n.of g1.h, q⟩)
      · rw [if_neg hz] at p; exact p.elim
end

/-! ### defs -/
def fnM (ar n : Nat) (body : Rho → Out) (ds : List D) : Out := if ds.length = ar then (match body (ds.map .d ++ List.replicate (n - ds.length) .no) with
  | .nx _ => .rt .none
  | .rt x => .rt x
  | .rf xs => .rf xs
  | .rz z _ => .rz z []
  | _ => .bad) else .bad
def fnM0 (ar n : Nat) (body : Rho → Out) (ds : List D) : Out := match fnM ar n body ds with
  | .rt x => .rt x
  | .rf xs => .rf xs
  | _ => .bad
def spM (K : PySem.W.Frag) (ns : Sc) (mg : Str → Option Value) (f : List D → Out) : Sp := fun vs H Qk E => ∃ G ds, Sub G H ∧ QA K ns G vs ds ∧ match f ds with
  | .rt x => ∀ G' H' v, Gr G H G' H' → Q K ns G' v x → Qk v H'
  | .rf xs => ∀ G' H' a us, Gr G H G' H' → Nw H a → H' a = some (.lst us) → G' a = none → QA K ns G' us xs → Qk (.ref a) H'
  | .rz z _ => ∀ G' H', Gr G H G' H' → ∀ C, mg z = some (.ref C) → E (.ref C) none H'
  | _ => False
theorem start_ok {K : PySem.W.Frag} {ns : Sc} {G H : Hp} {vs : List V} {ds : List D} {N : List Str} (s : Sub G H) (q : QA K ns G vs ds) : Ok K ⟨ns, G, H⟩ G H (ds.map .d ++ List.replicate (N.length - ds.length) .no) (start N vs) := by
  have hl := q.length
  refine ⟨s, Gr.refl s, by simp [L2.start, hl], fun i x e => ?_, fun i j a xs ys e1 e2 e3 e4 => ?_⟩
  · unfold L2.start
    by_cases hi : i < ds.length
    · rw [List.getElem?_append_left (by simpa using hi), List.getElem?_map] at e
      cases ed : ds[i]? with
      | none => rw [ed] at e; cases e
      | some d =>
        rw [ed] at e
        cases e
        obtain ⟨v, ev, qv⟩ := q.get ed
        rw [List.getElem?_append_left (by simp; omega), List.getElem?_map, ev]
        exact ⟨v, rfl, qv⟩
    · rw [List.getElem?_append_right (by simpa using hi)] at e
      have := List.mem_of_getElem? e
      rw [List.mem_replicate] at this
      rw [this.2]
      trivial
  · by_cases hi : i < ds.length
    · rw [List.getElem?_append_left (by simpa using hi), List.getElem?_map] at e1
      cases ed : ds[i]? with
      | none => rw [ed] at e1; cases e1
      | some d => rw [ed] at e1; cases e1
    · rw [List.getElem?_append_right (by simpa using hi)] at e1
      have := List.mem_of_getElem? e1
      rw [List.mem_replicate] at this
      cases this.2
/-- a def out of which nothing is raised -/
theorem fnOk {P : Program} {w : World} {K : PySem.W.Frag} {mg : Str → Option Value} {base : Heap} {x qual : Str} {st : Stmt} {f : Addr} {fd : FuncData} {N ps : List Str} {k : Nat} {ns : Sc} {body : Rho → Out} (F : Fun K x qual st f fd) (S : FnScope N ps (defScope st))
    (hb : ∀ (cdv : Value) (A : Around) (outer : List Env) (s : Shared) (H : Hp) (E : XK) (c : Cm), c.ns = ns → Room k (A.deeper (envOfC qual (defScope st) s.heap.objs.size f cdv)) → MSs (cxOf CX0 P w K mg base N qual (defScope st) f cdv A outer s H E).nox c W0 (defBody st) body) :
    FnOk P w K mg base CX0 (k + 1) f fd ps (spM K ns mg (fnM0 ps.length N.length body)) := by
  refine F.ok S (fun vs H Qk E h => ?_) (fun cdv A outer s H vs Qk E hr h => ?_)
  · obtain ⟨G, ds, s, q, h⟩ := h
    unfold fnM0 fnM at h
    by_cases hl : ds.length = ps.length
    · rw [q.length, hl]
    · rw [if_neg hl] at h; exact h.elim
  · obtain ⟨G, ds, s', q, h⟩ := h
    refine ⟨_, hb cdv A outer s H E ⟨ns, G, H⟩ rfl hr, G, _, start_ok s' q, ?_⟩
    unfold fnM0 fnM at h
    by_cases hl : ds.length = ps.length
    · rw [if_pos hl] at h
      cases e : body (ds.map .d ++ List.replicate (N.length - ds.length) .no) with
      | nx ρ =>
        rw [e] at h
        exact fun G' H' σ s ok => h G' H' _ ok.e .non
      | rt x => rw [e] at h; exact fun G' H' v g q => h G' H' v g q
      | rf x => rw [e] at h; exact fun G' H' a us g n h1 h2 q => h G' H' a us g n h1 h2 q
      | rz z ρ => rw [e] at h; exact h.elim
      | bk ρ => rw [e] at h; exact h.elim
      | ct ρ => rw [e] at h; exact h.elim
      | bad => rw [e] at h; exact h.elim
    · rw [if_neg hl] at h; exact h.elim

/-! ### calls -/
def Out.r : Out → R D
  | .rt x => .ok x
  | .rf xs => .ok (.list xs)
  | .rz z _ => .rz z
  | _ => .bad
def Out.s : Out → R Sl
  | .rt x => .ok (.d x)
  | .rf xs => .ok (.o xs)
  | .rz z _ => .rz z
  | _ => .bad
def call (f : List D → Out) (g : Rho → R (List D)) : Rho → R D := fun ρ => (g ρ).bind fun ds => (f ds).r
def ncall (f : List D → Out) (g : Rho → R (List D)) : Rho → R Sl := fun ρ => (g ρ).bind fun ds => (f ds).s
section
variable {X : Cx} {c : Cm}
theorem me_call {k : Nat} {fa : Addr} {fd : FuncData} {ps : List Str} {x : Str} {p pos : Pos} {e : Expr} {es : List Expr} {f : List D → Out} {g : Rho → R (List D)} (F : FnOk X.prog X.w X.K X.mg X.base CX0 k fa fd ps (spM X.K c.ns X.mg f)) (hr : Room k X.A) (hg : Gl X x) (hm : X.mg x = some (.ref fa)) (hk : PySem.W.keepIn X.K (.ref fa) = true) (hb : Binds X.K fd ps [])
    (ha : MA X c W0 (e :: es) g) (hdb : (x == ("__debug__" : Str)) = false := by decide) (he : starEach (e :: es) X.env = (false, eval e X.env) :: starEach es X.env := by rfl) (hpl : (backTo pos (starEach es X.env)).any (·.1) = false := by rfl) :
    ME X c W0 (.Call (.Name x p) (e :: es) [] pos) (call f g) :=
  PE.imp (pe_call F hr hg hm hk hb .nil pass0 ha hdb he hpl) fun σ H Qk ⟨G, ρ, ok, p⟩ => step ok p fun ds G1 H1 vs _ g1 r1 ok1 p1 => by
    show spM X.K c.ns X.mg f (vs ++ []) H1 Qk E0
    rw [List.append_nil]
    refine ⟨G1, ds, ok1.s, r1, ?_⟩
    cases e : f ds with
    | rt x => rw [e] at p1; exact p1
    | rf xs =>
      rw [e] at p1
      exact fun G' H' a us g n h1 h2 q => p1 (upd G' a (.lst us)) H' _ (g.seal n h1 h2) (.lst upd_same (QA.mono (new_same h2) _ _ q))
    | rz z ρ' => rw [e] at p1; exact fun G' H' g C _ => p1 G' H' g
    | _ => rw [e] at p1; exact p1.elim
theorem mn_call {k : Nat} {fa : Addr} {fd : FuncData} {ps : List Str} {x : Str} {p pos : Pos} {e : Expr} {es : List Expr} {f : List D → Out} {g : Rho → R (List D)} (F : FnOk X.prog X.w X.K X.mg X.base CX0 k fa fd ps (spM X.K c.ns X.mg f)) (hr : Room k X.A) (hg : Gl X x) (hm : X.mg x = some (.ref fa)) (hk : PySem.W.keepIn X.K (.ref fa) = true) (hb : Binds X.K fd ps [])
    (ha : MA X c W0 (e :: es) g) (hdb : (x == ("__debug__" : Str)) = false := by decide) (he : starEach (e :: es) X.env = (false, eval e X.env) :: starEach es X.env := by rfl) (hpl : (backTo pos (starEach es X.env)).any (·.1) = false := by rfl) :
    MN X c W0 (.Call (.Name x p) (e :: es) [] pos) (ncall f g) :=
  PE.imp (pe_call F hr hg hm hk hb .nil pass0 ha hdb he hpl) fun σ H Qk ⟨G, ρ, ok, p⟩ => stepN ok p fun ds G1 H1 vs _ g1 r1 ok1 p1 => by
    show spM X.K c.ns X.mg f (vs ++ []) H1 Qk E0
    rw [List.append_nil]
    refine ⟨G1, ds, ok1.s, r1, ?_⟩
    cases e : f ds with
    | rt x => rw [e] at p1; exact fun G' H' v g q => p1 G' H' v g q
    | rf xs =>
      rw [e] at p1
      exact fun G' H' a us g n h1 h2 q => p1 G' H' _ g ⟨a, us, rfl, h1, h2, n, q⟩
    | rz z ρ' => rw [e] at p1; exact fun G' H' g C _ => p1 G' H' g
    | _ => rw [e] at p1; exact p1.elim
end

/-! ### a, b = x, y -/
def sPar (i j : Nat) (f g : Rho → R Sl) : Rho → Out := fun ρ => (f ρ).out ρ fun s => (g ρ).out ρ fun t => .nx ((ρ.set i s).set j t)
def sPar3 (i j l : Nat) (f g h : Rho → R Sl) : Rho → Out := fun ρ => (f ρ).out ρ fun s => (g ρ).out ρ fun t => (h ρ).out ρ fun u => .nx (((ρ.set i s).set j t).set l u)
section
variable {X : Cx} {c : Cm} {W : WM}
/-- a value that waits to be stored, kept while another one is made -/
theorem two {K : PySem.W.Frag} {G H G1 H1 G2 H2 : Hp} {ρ : Rho} {σ : L2.St} {i j : Nat} {v w : V} {s t : Sl} (ok : Ok K c G H ρ σ) (g1 : Gr G H G1 H1) (r1 : NwSl K c H G1 H1 v s) (g2 : Gr G1 H1 G2 H2) (r2 : NwSl K c H1 G2 H2 w t) (hij : i ≠ j) :
    Ok K c G2 H2 ((ρ.set i s).set j t) ((σ.set i (some v)).set j (some w)) := by
  have ok1 := ok.new g1 i r1
  exact ok1.new g2 j r2
end
end M

namespace M
open PySem PySem.Spec PyProof.Rows L2

section
variable {X : Cx} {c : Cm} {W : WM}
/-! ### a, b = x, y -/
theorem ms_par {i j : Nat} {x y : Str} {a b : Expr} {f g : Rho → R Sl} {px py pt pos : Pos} {kt k2 pt2} (hc : X.calm = true) (hN : X.N.Nodup) (hi : X.N[i]? = some x) (hj : X.N[j]? = some y) (hij : i ≠ j)
    (hx : X.env.scope.names.lookup x = some .local) (hy : X.env.scope.names.lookup y = some .local) (ha : MN X c W a f) (hb : MN X c W b g)
    (hw : swappedStores [.Tuple [.Name x px, .Name y py] kt pt] (.Tuple [a, b] k2 pt2) X.env = pure (some [x, y]))
    (hs : swapsWithSole [.Tuple [.Name x px, .Name y py] kt pt] (.Tuple [a, b] k2 pt2) pos.line X.env = pure false := by rfl) (s1 : starEach [a, b] X.env = (false, eval a X.env) :: starEach [b] X.env := by rfl) (s2 : starEach [b] X.env = (false, eval b X.env) :: starEach [] X.env := by rfl) :
    MS X c W (.Assign [.Tuple [.Name x px, .Name y py] kt pt] (.Tuple [a, b] k2 pt2) pos) (sPar i j f g) :=
  PS.imp (ps_par hc hN hi hj hij hx hy (pa_cons ha (pa_cons hb pa_nil s2) s1) hw hs) fun De σ H ⟨G, ρ, ok, p⟩ => stepSN ok p fun s G1 H1 v _ g1 r1 ok1 p1 => stepSN ok1 p1 fun t G2 H2 w _ g2 r2 ok2 p2 =>
    ⟨v, w, rfl, p2 G2 H2 _ (Same.refl G2) ((ok.new g1 i r1).new g2 j r2)⟩
theorem ms_par3 {i j l : Nat} {x y z : Str} {a b d : Expr} {f g h : Rho → R Sl} {px py pz pt pos : Pos} {kt k2 pt2} (hc : X.calm = true) (hN : X.N.Nodup) (hi : X.N[i]? = some x) (hj : X.N[j]? = some y) (hl : X.N[l]? = some z) (hij : i ≠ j) (hil : i ≠ l) (hjl : j ≠ l)
    (hx : X.env.scope.names.lookup x = some .local) (hy : X.env.scope.names.lookup y = some .local) (hz : X.env.scope.names.lookup z = some .local) (ha : MN X c W a f) (hb : MN X c W b g) (hd : MN X c W d h)
    (hw : swappedStores [.Tuple [.Name x px, .Name y py, .Name z pz] kt pt] (.Tuple [a, b, d] k2 pt2) X.env = pure (some [x, y, z]))
    (hs : swapsWithSole [.Tuple [.Name x px, .Name y py, .Name z pz] kt pt] (.Tuple [a, b, d] k2 pt2) pos.line X.env = pure false := by rfl) (s1 : starEach [a, b, d] X.env = (false, eval a X.env) :: starEach [b, d] X.env := by rfl) (s2 : starEach [b, d] X.env = (false, eval b X.env) :: starEach [d] X.env := by rfl) (s3 : starEach [d] X.env = (false, eval d X.env) :: starEach [] X.env := by rfl) :
    MS X c W (.Assign [.Tuple [.Name x px, .Name y py, .Name z pz] kt pt] (.Tuple [a, b, d] k2 pt2) pos) (sPar3 i j l f g h) :=
  PS.imp (ps_par3 hc hN hi hj hl hij hil hjl hx hy hz (pa_cons ha (pa_cons hb (pa_cons hd pa_nil s3) s2) s1) hw hs) fun De σ H ⟨G, ρ, ok, p⟩ => stepSN ok p fun s G1 H1 v _ g1 r1 ok1 p1 => stepSN ok1 p1 fun t G2 H2 w _ g2 r2 ok2 p2 => stepSN ok2 p2 fun u G3 H3 w3 _ g3 r3 ok3 p3 =>
    ⟨v, w, w3, rfl, p3 G3 H3 _ (Same.refl G3) (((ok.new g1 i r1).new g2 j r2).new g3 l r3)⟩
/-! ### x = e, e a target of several names -/
def sUnp (b : D → Rho → Option Rho) (f : Rho → R D) : Rho → Out := fun ρ => (f ρ).out ρ fun d => match b d ρ with
  | some ρ' => .nx ρ'
  | none => .bad
theorem ms_unp {tg e : Expr} {f : Rho → R D} {g : TG} {b : D → Rho → Option Rho} {vs : List Nat} {pos : Pos} (he : ME X c W e f) (hg : PG X tg g) (tk : TgOk X c vs g b) (hs : swapsWithSole [tg] e pos.line X.env = pure false := by rfl) (hw : swappedStores [tg] e X.env = pure none := by rfl)
    (h1 : (assignEach [tg] X.env).map (·.2) = [assign tg X.env] := by rfl) : MS X c W (.Assign [tg] e pos) (sUnp b f) :=
  PS.imp (ps_asg he hg hs hw h1) fun De σ H ⟨G, ρ, ok, p⟩ => stepS ok p fun d G1 H1 v _ g1 r1 ok1 p1 => by
    cases eb : b d ρ with
    | none => rw [eb] at p1; exact p1.elim
    | some ρ' =>
      rw [eb] at p1
      exact tk G1 H1 σ ρ v d ρ' _ ok1 r1 eb fun σ' ok' _ => p1 G1 H1 σ' (Same.refl G1) ok'
/-! ### chains -/
def chE (o o' : D → D → Option Bool) (f g h : Rho → R D) : Rho → R Bool := fun ρ => (f ρ).bind fun x => (g ρ).bind fun y => (R.of (o x y)).bind fun b => if b then (h ρ).bind fun z => R.of (o' y z) else .ok false
theorem mt_chain {op op' : CmpOp} {r r' : R2} {o o' : D → D → Option Bool} {a b d : Expr} {f g h : Rho → R D} {pos : Pos} (ho : OpR X (compareOp op) r) (ho' : OpR X (compareOp op') r') (hr : CmD X c.ns r o) (hr' : CmD X c.ns r' o') (ha : MB X c W a f) (hb : MB X c W b g) (hd : MB X c W d h)
    (hm : lastMarks [op, op'] [b, d] = false := by with_unfolding_all rfl) : MT X c W (.Compare a [op, op'] [b, d] pos) (chE o o' f g h) :=
  PT.imp (pt_chain ho ho' ha hb hd hm) fun σ H Qk ⟨G, ρ, ok, p⟩ => step ok p fun x G1 H1 v _ g1 r1 ok1 p1 => step ok1 p1 fun y G2 H2 w _ g2 r2 ok2 p2 => by
    cases e : o x y with
    | none => rw [e] at p2; exact p2.elim
    | some k =>
      rw [e] at p2
      refine hr G2 H2 v w x y k _ e ok2.s (r1.gr g2) r2 fun G3 H3 g3 => ⟨k, rfl, ?_⟩
      have p3 := p2.gr g3
      cases k with
      | false => exact ⟨false, rfl, p3 G3 H3 false (Gr.refl g3.s) rfl⟩
      | true =>
        refine step (ok2.gr g3) p3 fun z G4 H4 u _ g4 r4 ok4 p4 => ?_
        cases e' : o' y z with
        | none => rw [e'] at p4; exact p4.elim
        | some k' =>
          rw [e'] at p4
          exact hr' G4 H4 w u y z k' _ e' ok4.s ((r2.gr g3).gr g4) r4 fun G5 H5 g5 => ⟨k', rfl, p4 G5 H5 k' g5 rfl⟩
theorem me_chain {op op' : CmpOp} {r r' : R2} {o o' : D → D → Option Bool} {a b d : Expr} {f g h : Rho → R D} {pos : Pos} (ho : OpR X (compareOp op) r) (ho' : OpR X (compareOp op') r') (hr : CmD X c.ns r o) (hr' : CmD X c.ns r' o') (ha : MB X c W a f) (hb : MB X c W b g) (hd : MB X c W d h)
    (hm : lastMarks [op, op'] [b, d] = false := by with_unfolding_all rfl) : ME X c W (.Compare a [op, op'] [b, d] pos) (bv (chE o o' f g h)) :=
  PE.imp (pe_chain ho ho' ha hb hd hm) fun σ H Qk ⟨G, ρ, ok, p⟩ => by
    have e0 : bv (chE o o' f g h) ρ = (f ρ).bind fun x => (g ρ).bind fun y => (R.of (o x y)).bind fun b => if b then (h ρ).bind fun z => (R.of (o' y z)).bind fun b => .ok (.bool b) else .ok (.bool false) := by
      unfold bv chE
      cases f ρ with
      | ok x =>
        cases g ρ with
        | ok y =>
          show ((R.of (o x y)).bind _).bind _ = (R.of (o x y)).bind _
          cases o x y with
          | none => rfl
          | some k =>
            cases k with
            | false => rfl
            | true =>
              show ((h ρ).bind _).bind _ = (h ρ).bind _
              cases h ρ <;> rfl
        | _ => rfl
      | _ => rfl
    rw [e0] at p
    refine step ok p fun x G1 H1 v _ g1 r1 ok1 p1 => step ok1 p1 fun y G2 H2 w _ g2 r2 ok2 p2 => ?_
    cases e : o x y with
    | none => rw [e] at p2; exact p2.elim
    | some k =>
      rw [e] at p2
      refine hr G2 H2 v w x y k _ e ok2.s (r1.gr g2) r2 fun G3 H3 g3 => ⟨k, rfl, ?_⟩
      have p3 := p2.gr g3
      cases k with
      | false => exact p3 G3 H3 _ (Gr.refl g3.s) (.bl false)
      | true =>
        refine step (ok2.gr g3) p3 fun z G4 H4 u _ g4 r4 ok4 p4 => ?_
        cases e' : o' y z with
        | none => rw [e'] at p4; exact p4.elim
        | some k' =>
          rw [e'] at p4
          exact hr' G4 H4 w u y z k' _ e' ok4.s ((r2.gr g3).gr g4) r4 fun G5 H5 g5 => p4 G5 H5 _ g5 (.bl k')

/-! ### what a new object is -/
theorem newL {K : PySem.W.Frag} {ns : Sc} {G H : Hp} {us : List V} {ds : List D} {d : D} (s : Sub G H) (q : QA K ns G us ds) (e : d = .list ds) {Qk : VK} (k : ∀ G' H' u, Gr G H G' H' → Q K ns G' u d → Qk u H') : ∀ p, H p = none → Qk (.ref p) (upd H p (.lst us)) := fun p hp => by
  subst e
  exact k _ _ _ (Gr.new s hp nt_lst) (.lst upd_same (QA.mono (new_same (s.free hp)) _ _ q))
theorem newT {K : PySem.W.Frag} {ns : Sc} {G H : Hp} {us : List V} {ds : List D} {d : D} (s : Sub G H) (q : QA K ns G us ds) (e : d = .tuple ds) {Qk : VK} (k : ∀ G' H' u, Gr G H G' H' → Q K ns G' u d → Qk u H') : ∀ p, H p = none → Qk (.ref p) (upd H p (.tup us)) := fun p hp => by
  subst e
  exact k _ _ _ (Gr.new s hp nt_tup) (.tup (.inl (.inl upd_same)) (QA.mono (new_same (s.free hp)) _ _ q))
/-! ### + -/
def addD : D → D → Option D
  | .int i, .int j => some (.int (i + j))
  | .str x, .str y => if x.length + y.length ≤ 1000000 then some (.str (x ++ y)) else none
  | .list xs, .list ys => if xs.length + ys.length ≤ 1000000 then some (.list (xs ++ ys)) else none
  | .tuple xs, .tuple ys => if xs.length + ys.length ≤ 1000000 then some (.tuple (xs ++ ys)) else none
  | _, _ => none
theorem opr_add : OpR X (binaryOp .Add) (fun x y H Q => rI0 (fun i j => .int (i + j)) x y H Q ∨ (∃ i j, x = .str i ∧ y = .str j ∧ i.length + j.length ≤ sizeLine ∧ Q (.str (i ++ j)) H) ∨ rCat x y H Q ∨ rCatA X.K x y H Q) := op_add.or (op_add_str.or (op_cat.or op_catA))
theorem opd_add : OpD X c.ns (fun x y H Q => rI0 (fun i j => .int (i + j)) x y H Q ∨ (∃ i j, x = .str i ∧ y = .str j ∧ i.length + j.length ≤ sizeLine ∧ Q (.str (i ++ j)) H) ∨ rCat x y H Q ∨ rCatA X.K x y H Q) addD := fun G H v w x y d Qk e s b1 b2 k => by
  unfold addD at e
  split at e
  · cases e
    obtain rfl := b1.int
    obtain rfl := b2.int
    exact .inl ⟨_, _, rfl, rfl, k G H _ (Gr.refl s) (.int _)⟩
  · split at e
    · rename_i hl
      cases e
      obtain rfl := b1.str
      obtain rfl := b2.str
      exact .inr (.inl ⟨_, _, rfl, rfl, sz hl, k G H _ (Gr.refl s) (.str _)⟩)
    · cases e
  · split at e
    · rename_i hl
      cases e
      obtain ⟨a, us, rfl, h1, q1⟩ := b1.list s
      obtain ⟨b, ws, rfl, h2, q2⟩ := b2.list s
      exact .inr (.inr (.inl ⟨a, b, us, ws, rfl, rfl, h1, h2, by rw [q1.length, q2.length]; exact sz hl, newL s (q1.append q2) rfl k⟩))
    · cases e
  · split at e
    · rename_i hl
      cases e
      obtain ⟨a, us, rfl, h1, q1, g1⟩ := b1.tuple s
      obtain ⟨b, ws, rfl, h2, q2, g2⟩ := b2.tuple s
      refine .inr (.inr (.inr ⟨a, b, us, ws, rfl, rfl, h1, h2, by rw [q1.length, q2.length]; exact sz hl, fun z => ?_, fun z1 z2 => ?_, fun z1 z2 => newT s (q1.append q2) rfl k⟩))
      · subst z
        cases q1
        exact k G H _ (Gr.refl s) (.tup g2 q2)
      · subst z2
        cases q2
        rw [List.append_nil] at k
        exact k G H _ (Gr.refl s) (.tup g1 q1)
    · cases e
  · cases e
/-! ### - * // % -/
def subD : D → D → Option D
  | .int i, .int j => some (.int (i - j))
  | _, _ => none
theorem opd_sub : OpD X c.ns (rI0 fun i j => .int (i - j)) subD := fun G H v w x y d Qk e s b1 b2 k => by
  unfold subD at e
  split at e
  · cases e
    obtain rfl := b1.int
    obtain rfl := b2.int
    exact ⟨_, _, rfl, rfl, k G H _ (Gr.refl s) (.int _)⟩
  · cases e
def rep {α : Type} (n : Nat) (xs : List α) : List α := (List.replicate n xs).flatten
theorem QA.rep {K : PySem.W.Frag} {ns : Sc} {G : Hp} {us : List V} {ds : List D} (q : QA K ns G us ds) : ∀ n : Nat, QA K ns G (List.replicate n us).flatten (M.rep n ds)
  | 0 => .nil
  | n + 1 => by
    unfold M.rep
    rw [List.replicate_succ, List.flatten_cons, List.replicate_succ, List.flatten_cons]
    exact q.append (QA.rep q n)
def mulD : D → D → Option D
  | .int i, .int j => if (-18446744073709551616 < i ∧ i < 18446744073709551616) ∨ (-18446744073709551616 < j ∧ j < 18446744073709551616) then some (.int (i * j)) else none
  | .list xs, .int k => if k ≤ 1000000 ∧ -1000000 ≤ k ∧ xs.length * k.toNat ≤ 1000000 then some (.list (rep k.toNat xs)) else none
  | .tuple xs, .int k => if xs ≠ [] ∧ 2 ≤ k ∧ k ≤ 1000 ∧ xs.length ≤ 1000 then some (.tuple (rep k.toNat xs)) else none
  | _, _ => none
theorem opr_mul : OpR X (binaryOp .Mult) (fun x y H Q => rI CMul (fun i j => .int (i * j)) x y H Q ∨ rRep x y H Q ∨ rRepT X.K x y H Q) := op_mul.or (op_rep.or op_repT)
theorem opd_mul : OpD X c.ns (fun x y H Q => rI CMul (fun i j => .int (i * j)) x y H Q ∨ rRep x y H Q ∨ rRepT X.K x y H Q) mulD := fun G H v w x y d Qk e s b1 b2 k => by
  unfold mulD at e
  split at e
  · split at e
    · rename_i hc
      cases e
      obtain rfl := b1.int
      obtain rfl := b2.int
      exact .inl ⟨_, _, rfl, rfl, hc, k G H _ (Gr.refl s) (.int _)⟩
    · cases e
  · split at e
    · rename_i hc
      cases e
      obtain ⟨a, us, rfl, h1, q1⟩ := b1.list s
      obtain rfl := b2.int
      exact .inr (.inl ⟨a, _, us, rfl, rfl, h1, by omega, by omega, by rw [q1.length]; exact sz hc.2.2, newL s (q1.rep _) rfl k⟩)
    · cases e
  · split at e
    · rename_i hc
      cases e
      obtain ⟨a, us, rfl, h1, q1, g1⟩ := b1.tuple s
      obtain rfl := b2.int
      exact .inr (.inr ⟨a, _, us, rfl, rfl, h1, fun z => hc.1 (by subst z; cases q1; rfl), hc.2.1, hc.2.2.1, by rw [q1.length]; exact hc.2.2.2, newT s (q1.rep _) rfl k⟩)
    · cases e
  · cases e
def fdivD : D → D → Option D
  | .int i, .int j => if 0 < j ∧ j < 1073741824 then some (.int (i / j)) else none
  | _, _ => none
theorem opd_fdiv : OpD X c.ns (rI CDiv fun i j => .int (i / j)) fdivD := fun G H v w x y d Qk e s b1 b2 k => by
  unfold fdivD at e
  split at e
  · split at e
    · rename_i hc
      cases e
      obtain rfl := b1.int
      obtain rfl := b2.int
      exact ⟨_, _, rfl, rfl, hc, k G H _ (Gr.refl s) (.int _)⟩
    · cases e
  · cases e
def modD : D → D → Option D
  | .int i, .int j => if 0 < j then some (.int (i % j)) else none
  | _, _ => none
theorem opd_mod : OpD X c.ns (rI (fun _ j => 0 < j) fun i j => .int (i % j)) modD := fun G H v w x y d Qk e s b1 b2 k => by
  unfold modD at e
  split at e
  · split at e
    · rename_i hc
      cases e
      obtain rfl := b1.int
      obtain rfl := b2.int
      exact ⟨_, _, rfl, rfl, hc, k G H _ (Gr.refl s) (.int _)⟩
    · cases e
  · cases e
def negD : D → Option D
  | .int i => some (.int (-i))
  | _ => none
theorem me_neg {a : Expr} {f : Rho → R D} {pos : Pos} (ha : MB X c W a f) : ME X c W (.UnaryOp .USub a pos) (e1 negD f) :=
  PE.imp (pe_un un_neg ha) fun σ H Qk ⟨G, ρ, ok, p⟩ => step ok p fun x G1 H1 v _ g1 r1 ok1 p1 => by
    cases x with
    | int i =>
      obtain rfl := r1.int
      exact ⟨i, rfl, p1 G1 H1 _ (Gr.refl ok1.s) (.int _)⟩
    | _ => exact p1.elim
/-! ### < <= > >= -/
def ltD : D → D → Option Bool
  | .int i, .int j => some (decide (i < j))
  | _, _ => none
def leD : D → D → Option Bool
  | .int i, .int j => some (decide (i ≤ j))
  | _, _ => none
def gtD : D → D → Option Bool
  | .int i, .int j => some (decide (j < i))
  | _, _ => none
def geD : D → D → Option Bool
  | .int i, .int j => some (decide (j ≤ i))
  | _, _ => none
theorem cmd_lt : CmD X c.ns (rI0 fun i j => .bl (decide (i < j))) ltD := fun G H v w x y d Qk e s b1 b2 k => by
  unfold ltD at e
  split at e
  · cases e
    obtain rfl := b1.int
    obtain rfl := b2.int
    exact ⟨_, _, rfl, rfl, k G H (Gr.refl s)⟩
  · cases e
theorem cmd_le : CmD X c.ns (rI0 fun i j => .bl (decide (i ≤ j))) leD := fun G H v w x y d Qk e s b1 b2 k => by
  unfold leD at e
  split at e
  · cases e
    obtain rfl := b1.int
    obtain rfl := b2.int
    exact ⟨_, _, rfl, rfl, k G H (Gr.refl s)⟩
  · cases e
theorem cmd_gt : CmD X c.ns (rI0 fun i j => .bl (decide (j < i))) gtD := fun G H v w x y d Qk e s b1 b2 k => by
  unfold gtD at e
  split at e
  · cases e
    obtain rfl := b1.int
    obtain rfl := b2.int
    exact ⟨_, _, rfl, rfl, k G H (Gr.refl s)⟩
  · cases e
theorem cmd_ge : CmD X c.ns (rI0 fun i j => .bl (decide (j ≤ i))) geD := fun G H v w x y d Qk e s b1 b2 k => by
  unfold geD at e
  split at e
  · cases e
    obtain rfl := b1.int
    obtain rfl := b2.int
    exact ⟨_, _, rfl, rfl, k G H (Gr.refl s)⟩
  · cases e
/-! ### == != -/
mutual
theorem Q.dp {K : PySem.W.Frag} {ns : Sc} {G H : Hp} (s : Same G H) : ∀ (d : D) (v : V), d.canLay0 = true → Q K ns G v d → Dp K H v d
  | .none, _, _, h => by cases h; exact .non
  | .bool _, _, _, h => by cases h; exact .bl _
  | .int _, _, _, h => by cases h; exact .int _
  | .str _, _, _, h => by cases h; exact .str _
  | .list ds, _, l, h => by cases h with | lst h1 h2 => exact .lst (SqL.of (s _ _ h1)) (QA.dp s ds _ (by simpa [PyData.canLay0] using l) h2)
  | .tuple ds, _, l, h => by cases h with | tup h1 h2 => exact .tup (SqT.same s h1) (QA.dp s ds _ (by simpa [PyData.canLay0] using l) h2)
  | .dict _, _, l, h => by simp [PyData.canLay0] at l
theorem QA.dp {K : PySem.W.Frag} {ns : Sc} {G H : Hp} (s : Same G H) : ∀ (ds : List D) (vs : List V), PyData.canLayAll0 ds = true → QA K ns G vs ds → DpAll K H vs ds
  | [], _, _, h => by cases h; exact .nil
  | d :: ds, _, l, h => by
    cases h with
    | cons h1 h2 =>
      have l' : d.canLay0 = true ∧ PyData.canLayAll0 ds = true := by simpa [PyData.canLayAll0] using l
      exact .cons (Q.dp s d _ l'.1 h1) (QA.dp s ds _ l'.2 h2)
end
theorem B.dp {K : PySem.W.Frag} {ns : Sc} {G H : Hp} {v : V} {d : D} (b : B K ns G H v d) (s : Sub G H) (l : SeqAt.shaped d = true) : Dp K H v d := by
  have l' := SeqAt.canLay_of_shaped l
  rcases b with q | ⟨a, us, ds, rfl, rfl, h, q⟩
  · exact Q.dp s.same d v l' q
  · exact .lst (SqL.of h) (QA.dp s.same ds us (by simpa [PyData.canLay0] using l') q)
def eqD (x y : D) : Option Bool := if (SeqAt.shaped x && SeqAt.shaped y) = true then some (PyData.eqv x y) else none
def neD (x y : D) : Option Bool := if (SeqAt.shaped x && SeqAt.shaped y) = true then some (!PyData.eqv x y) else none
theorem cmd_eq : CmD X c.ns (rEqD X.K) eqD := fun G H v w x y d Qk e s b1 b2 k => by
  unfold eqD at e
  split at e
  · rename_i h
    cases e
    have h' := Bool.and_eq_true_iff.mp h
    exact ⟨x, y, b1.dp s h'.1, b2.dp s h'.2, h'.1, h'.2, k G H (Gr.refl s)⟩
  · cases e
theorem cmd_ne : CmD X c.ns (rNeD X.K) neD := fun G H v w x y d Qk e s b1 b2 k => by
  unfold neD at e
  split at e
  · rename_i h
    cases e
    have h' := Bool.and_eq_true_iff.mp h
    exact ⟨x, y, b1.dp s h'.1, b2.dp s h'.2, h'.1, h'.2, k G H (Gr.refl s)⟩
  · cases e
/-! ### is -/
def isNone : D → Bool
  | .none => true
  | _ => false
def isD : D → D → Option Bool
  | x, .none => some (isNone x)
  | .bool a, .bool b => some (decide (a = b))
  | _, _ => none
def isntD : D → D → Option Bool
  | x, .none => some (!isNone x)
  | .bool a, .bool b => some (!decide (a = b))
  | _, _ => none
theorem none_of {K : PySem.W.Frag} {ns : Sc} {G H : Hp} {v : V} {d : D} (b : B K ns G H v d) : decide (v = .non) = isNone d := by
  rcases b with q | ⟨a, us, ds, rfl, rfl, h, q⟩
  · cases q <;> rfl
  · rfl
theorem opr_is : OpR X (compareOp .Is) (fun x y H Q => (y = .non ∧ Q (.bl (decide (x = .non))) H) ∨ rIsB x y H Q) := op_isN.or op_isBl
theorem opr_isnt : OpR X (compareOp .IsNot) (fun x y H Q => (y = .non ∧ Q (.bl (!decide (x = .non))) H) ∨ rNotB x y H Q) := op_notN.or op_notBl
theorem cmd_is : CmD X c.ns (fun x y H Q => (y = .non ∧ Q (.bl (decide (x = .non))) H) ∨ rIsB x y H Q) isD := fun G H v w x y d Qk e s b1 b2 k => by
  unfold isD at e
  split at e
  · cases e
    refine .inl ⟨b2.none, ?_⟩
    rw [none_of b1]
    exact k G H (Gr.refl s)
  · cases e
    obtain rfl := b1.bool
    obtain rfl := b2.bool
    exact .inr ⟨_, _, rfl, rfl, k G H (Gr.refl s)⟩
  · cases e
theorem cmd_isnt : CmD X c.ns (fun x y H Q => (y = .non ∧ Q (.bl (!decide (x = .non))) H) ∨ rNotB x y H Q) isntD := fun G H v w x y d Qk e s b1 b2 k => by
  unfold isntD at e
  split at e
  · cases e
    refine .inl ⟨b2.none, ?_⟩
    rw [none_of b1]
    exact k G H (Gr.refl s)
  · cases e
    obtain rfl := b1.bool
    obtain rfl := b2.bool
    exact .inr ⟨_, _, rfl, rfl, k G H (Gr.refl s)⟩
  · cases e
/-! ### x[i] -/
def ixD : D → D → Option D
  | .list xs, .int i => atI xs i
  | .tuple xs, .int i => atI xs i
  | .str z, .int i => if z.length ≤ 1000000 then (atI z.cps.toList i).map fun n => .str ⟨#[n]⟩ else none
  | _, _ => none
theorem QA.atI {K : PySem.W.Frag} {ns : Sc} {G : Hp} {us : List V} {ds : List D} {i : Int} {d : D} (q : QA K ns G us ds) (e : L2.atI ds i = some d) : ∃ v, L2.atI us i = some v ∧ Q K ns G v d := by
  unfold L2.atI at e ⊢
  rw [q.length]
  cases h : ixN ds.length i with
  | none => rw [h] at e; cases e
  | some j =>
    rw [h] at e
    exact q.get e
theorem opd_ix : OpD X c.ns (rIx X.K) ixD := fun G H v w x y d Qk e s b1 b2 k => by
  unfold ixD at e
  split at e
  · obtain ⟨a, us, rfl, h1, q1⟩ := b1.list s
    obtain rfl := b2.int
    obtain ⟨u, hu, qu⟩ := q1.atI e
    exact .inl ⟨a, us, _, u, rfl, rfl, SqL.of h1, hu, k G H u (Gr.refl s) qu⟩
  · obtain ⟨a, us, rfl, h1, q1, g1⟩ := b1.tuple s
    obtain rfl := b2.int
    obtain ⟨u, hu, qu⟩ := q1.atI e
    exact .inr (.inl ⟨a, us, _, u, rfl, rfl, h1, hu, k G H u (Gr.refl s) qu⟩)
  · split at e
    · rename_i hl
      obtain rfl := b1.str
      obtain rfl := b2.int
      rename_i z i
      cases h : L2.atI z.cps.toList i with
      | none => rw [h] at e; cases e
      | some n =>
        rw [h] at e
        cases e
        exact .inr (.inr ⟨_, _, n, rfl, rfl, sz hl, h, k G H _ (Gr.refl s) (.str _)⟩)
    · cases e
  · cases e
end
end M

namespace M
open PySem PySem.Spec PyProof.Rows L2
theorem BA.nil_inv {K : PySem.W.Frag} {ns : Sc} {G H : Hp} {vs : List V} (h : BA K ns G H vs []) : vs = [] := by cases h; rfl
theorem BA.cons_inv {K : PySem.W.Frag} {ns : Sc} {G H : Hp} {vs : List V} {d : D} {ds : List D} (h : BA K ns G H vs (d :: ds)) : ∃ v ws, vs = v :: ws ∧ B K ns G H v d ∧ BA K ns G H ws ds := by
  cases h with
  | cons h1 h2 => exact ⟨_, _, rfl, h1, h2⟩

section
variable {X : Cx} {c : Cm} {W : WM}
/-! ### len -/
def lenD : List D → Option D
  | [.list xs] => some (.int xs.length)
  | [.tuple xs] => some (.int xs.length)
  | [.str z] => if z.length ≤ 1000000 then some (.int z.length) else none
  | _ => none
theorem cad_len : CaD X c.ns (fun xs H Q => ∃ x n, xs = [x] ∧ LenV X.K x H n ∧ Q (.int n) H) lenD := fun G H vs ds d Qk e s b k => by
  unfold lenD at e
  split at e
  · cases e
    obtain ⟨v, ws, rfl, b1, b2⟩ := b.cons_inv
    obtain rfl := b2.nil_inv
    obtain ⟨a, us, rfl, h1, q1⟩ := b1.list s
    exact ⟨_, us.length, rfl, .inl ⟨us, SqL.of h1, rfl⟩, by rw [q1.length]; exact k G H _ (Gr.refl s) (.int _)⟩
  · cases e
    obtain ⟨v, ws, rfl, b1, b2⟩ := b.cons_inv
    obtain rfl := b2.nil_inv
    obtain ⟨a, us, rfl, h1, q1, _⟩ := b1.tuple s
    exact ⟨_, us.length, rfl, .inr ⟨us, h1, rfl⟩, by rw [q1.length]; exact k G H _ (Gr.refl s) (.int _)⟩
  · split at e
    · rename_i hl
      cases e
      obtain ⟨v, ws, rfl, b1, b2⟩ := b.cons_inv
      obtain rfl := b2.nil_inv
      obtain rfl := b1.str
      exact ⟨_, _, rfl, ⟨sz hl, rfl⟩, k G H _ (Gr.refl s) (.int _)⟩
    · cases e
  · cases e
/-! ### abs, min, max, int, sum, all, any -/
def absD : List D → Option D
  | [.int i] => some (.int (if i < 0 then -i else i))
  | _ => none
theorem cad_abs : CaD X c.ns (fun xs H Q => ∃ i, xs = [.int i] ∧ Q (.int (if i < 0 then -i else i)) H) absD := fun G H vs ds d Qk e s b k => by
  unfold absD at e
  split at e
  · cases e
    obtain ⟨v, ws, rfl, b1, b2⟩ := b.cons_inv
    obtain rfl := b2.nil_inv
    obtain rfl := b1.int
    exact ⟨_, rfl, k G H _ (Gr.refl s) (.int _)⟩
  · cases e
/-- the intsOf of a list -/
def intsOf : List D → Option (List Int)
  | [] => some []
  | .int i :: r => (intsOf r).map (i :: ·)
  | _ :: _ => none
theorem ints_eq : ∀ {ds : List D} {is : List Int}, intsOf ds = some is → ds = is.map .int
  | [], _, h => by cases h; rfl
  | .int i :: r, is, h => by
    unfold intsOf at h
    cases e : intsOf r with
    | none => rw [e] at h; cases h
    | some js =>
      rw [e] at h
      cases h
      rw [ints_eq e]
      rfl
  | .none :: _, _, h => by cases h
  | .bool _ :: _, _, h => by cases h
  | .str _ :: _, _, h => by cases h
  | .list _ :: _, _, h => by cases h
  | .tuple _ :: _, _, h => by cases h
  | .dict _ :: _, _, h => by cases h
theorem ints_map (is : List Int) : intsOf (is.map .int) = some is := by
  induction is with
  | nil => rfl
  | cons i is ih => show (intsOf (is.map .int)).map (i :: ·) = _; rw [ih]; rfl
theorem QA.ints_inv {K : PySem.W.Frag} {ns : Sc} {G : Hp} : ∀ {is : List Int} {us : List V}, QA K ns G us (is.map .int) → us = is.map V.int
  | [], _, h => by cases h; rfl
  | i :: is, _, h => by
    cases h with
    | cons h1 h2 =>
      cases h1
      rw [QA.ints_inv h2]
      rfl
def boolsOf : List D → Option (List Bool)
  | [] => some []
  | .bool i :: r => (boolsOf r).map (i :: ·)
  | _ :: _ => none
theorem bools_eq : ∀ {ds : List D} {is : List Bool}, boolsOf ds = some is → ds = is.map .bool
  | [], _, h => by cases h; rfl
  | .bool i :: r, is, h => by
    unfold boolsOf at h
    cases e : boolsOf r with
    | none => rw [e] at h; cases h
    | some js =>
      rw [e] at h
      cases h
      rw [bools_eq e]
      rfl
  | .none :: _, _, h => by cases h
  | .int _ :: _, _, h => by cases h
  | .str _ :: _, _, h => by cases h
  | .list _ :: _, _, h => by cases h
  | .tuple _ :: _, _, h => by cases h
  | .dict _ :: _, _, h => by cases h
theorem bools_map (is : List Bool) : boolsOf (is.map .bool) = some is := by
  induction is with
  | nil => rfl
  | cons i is ih => show (boolsOf (is.map .bool)).map (i :: ·) = _; rw [ih]; rfl
theorem QA.bools_inv {K : PySem.W.Frag} {ns : Sc} {G : Hp} : ∀ {is : List Bool} {us : List V}, QA K ns G us (is.map .bool) → us = is.map V.bl
  | [], _, h => by cases h; rfl
  | i :: is, _, h => by
    cases h with
    | cons h1 h2 =>
      cases h1
      rw [QA.bools_inv h2]
      rfl
def allD : List D → Option D
  | [.list xs] => (boolsOf xs).map fun bs => .bool (bs.all id)
  | _ => none
def anyD : List D → Option D
  | [.list xs] => (boolsOf xs).map fun bs => .bool (bs.any id)
  | _ => none
theorem cad_all : CaD X c.ns (rAll X.K) allD := fun G H vs ds d Qk e s b k => by
  unfold allD at e
  split at e
  · rename_i xs
    cases eb : boolsOf xs with
    | none => rw [eb] at e; cases e
    | some bs =>
      rw [eb] at e
      cases e
      obtain rfl := bools_eq eb
      obtain ⟨v, ws, rfl, b1, b2⟩ := b.cons_inv
      obtain rfl := b2.nil_inv
      obtain ⟨a, us, rfl, h1, q1⟩ := b1.list s
      obtain rfl := q1.bools_inv
      exact ⟨a, bs, rfl, SqL.of h1, k G H _ (Gr.refl s) (.bl _)⟩
  · cases e
theorem cad_any : CaD X c.ns (rAny X.K) anyD := fun G H vs ds d Qk e s b k => by
  unfold anyD at e
  split at e
  · rename_i xs
    cases eb : boolsOf xs with
    | none => rw [eb] at e; cases e
    | some bs =>
      rw [eb] at e
      cases e
      obtain rfl := bools_eq eb
      obtain ⟨v, ws, rfl, b1, b2⟩ := b.cons_inv
      obtain rfl := b2.nil_inv
      obtain ⟨a, us, rfl, h1, q1⟩ := b1.list s
      obtain rfl := q1.bools_inv
      exact ⟨a, bs, rfl, SqL.of h1, k G H _ (Gr.refl s) (.bl _)⟩
  · cases e
def sumD : List D → Option D
  | [.list xs] => (intsOf xs).map fun bs => .int bs.sum
  | _ => none
theorem cad_sum : CaD X c.ns (rSum X.K) sumD := fun G H vs ds d Qk e s b k => by
  unfold sumD at e
  split at e
  · rename_i xs
    cases eb : intsOf xs with
    | none => rw [eb] at e; cases e
    | some bs =>
      rw [eb] at e
      cases e
      obtain rfl := ints_eq eb
      obtain ⟨v, ws, rfl, b1, b2⟩ := b.cons_inv
      obtain rfl := b2.nil_inv
      obtain ⟨a, us, rfl, h1, q1⟩ := b1.list s
      obtain rfl := q1.ints_inv
      exact ⟨a, bs, rfl, SqL.of h1, k G H _ (Gr.refl s) (.int _)⟩
  · cases e
def maxL : List Int → Int
  | [] => 0
  | [x] => x
  | x :: r => max x (maxL r)
def minL : List Int → Int
  | [] => 0
  | [x] => x
  | x :: r => min x (minL r)
theorem maxL_cons (x y : Int) (r : List Int) : maxL (x :: y :: r) = max x (maxL (y :: r)) := rfl
theorem minL_cons (x y : Int) (r : List Int) : minL (x :: y :: r) = min x (minL (y :: r)) := rfl
theorem maxL_mem : ∀ {l : List Int}, l ≠ [] → maxL l ∈ l ∧ ∀ y ∈ l, y ≤ maxL l
  | [], h => absurd rfl h
  | [x], _ => ⟨by simp [maxL], fun y hy => by simp at hy; subst hy; simp [maxL]⟩
  | x :: y :: r, _ => by
    obtain ⟨h1, h2⟩ := maxL_mem (l := y :: r) (by simp)
    rw [maxL_cons]
    refine ⟨?_, fun z hz => ?_⟩
    · by_cases hx : x ≤ maxL (y :: r)
      · rw [Int.max_eq_right hx]; exact List.mem_cons_of_mem _ h1
      · rw [Int.max_eq_left (by omega)]; simp
    · rcases List.mem_cons.mp hz with rfl | hz
      · exact Int.le_max_left _ _
      · exact Int.le_trans (h2 z hz) (Int.le_max_right _ _)
theorem minL_mem : ∀ {l : List Int}, l ≠ [] → minL l ∈ l ∧ ∀ y ∈ l, minL l ≤ y
  | [], h => absurd rfl h
  | [x], _ => ⟨by simp [minL], fun y hy => by simp at hy; subst hy; simp [minL]⟩
  | x :: y :: r, _ => by
    obtain ⟨h1, h2⟩ := minL_mem (l := y :: r) (by simp)
    rw [minL_cons]
    refine ⟨?_, fun z hz => ?_⟩
    · by_cases hx : x ≤ minL (y :: r)
      · rw [Int.min_eq_left hx]; simp
      · rw [Int.min_eq_right (by omega)]; exact List.mem_cons_of_mem _ h1
    · rcases List.mem_cons.mp hz with rfl | hz
      · exact Int.min_le_left _ _
      · exact Int.le_trans (Int.min_le_right _ _) (h2 z hz)
def maxD : List D → Option D
  | [.int i, .int j] => some (.int (if j > i then j else i))
  | [.list xs] => match intsOf xs with
    | some (i :: is) => some (.int (maxL (i :: is)))
    | _ => none
  | _ => none
def minD : List D → Option D
  | [.int i, .int j] => some (.int (if j < i then j else i))
  | [.list xs] => match intsOf xs with
    | some (i :: is) => some (.int (minL (i :: is)))
    | _ => none
  | _ => none
theorem car_max (hc : X.calm = true) : CallR X (.builtin "max") (fun xs H Q => (∃ i j, xs = [.int i, .int j] ∧ Q (.int (if j > i then j else i)) H) ∨ rMax X.K xs H Q) := (call_max2 hc).or (cr_max hc)
theorem car_min (hc : X.calm = true) : CallR X (.builtin "min") (fun xs H Q => (∃ i j, xs = [.int i, .int j] ∧ Q (.int (if j < i then j else i)) H) ∨ rMin X.K xs H Q) := (call_min2 hc).or (cr_min hc)
theorem cad_max : CaD X c.ns (fun xs H Q => (∃ i j, xs = [.int i, .int j] ∧ Q (.int (if j > i then j else i)) H) ∨ rMax X.K xs H Q) maxD := fun G H vs ds d Qk e s b k => by
  unfold maxD at e
  split at e
  · cases e
    obtain ⟨v, ws, rfl, b1, b2⟩ := b.cons_inv
    obtain ⟨v2, ws2, rfl, b3, b4⟩ := b2.cons_inv
    obtain rfl := b4.nil_inv
    obtain rfl := b1.int
    obtain rfl := b3.int
    exact .inl ⟨_, _, rfl, k G H _ (Gr.refl s) (.int _)⟩
  · split at e
    · rename_i xs i is eb
      cases e
      obtain rfl := ints_eq eb
      obtain ⟨v, ws, rfl, b1, b2⟩ := b.cons_inv
      obtain rfl := b2.nil_inv
      obtain ⟨a, us, rfl, h1, q1⟩ := b1.list s
      obtain rfl := q1.ints_inv
      refine .inr ⟨a, i :: is, rfl, SqL.of h1, by simp, fun m hm hle => ?_⟩
      obtain ⟨z1, z2⟩ := maxL_mem (l := i :: is) (by simp)
      have : m = maxL (i :: is) := by
        have := hle _ z1
        have := z2 _ hm
        omega
      rw [this]
      exact k G H _ (Gr.refl s) (.int _)
    · cases e
  · cases e
theorem cad_min : CaD X c.ns (fun xs H Q => (∃ i j, xs = [.int i, .int j] ∧ Q (.int (if j < i then j else i)) H) ∨ rMin X.K xs H Q) minD := fun G H vs ds d Qk e s b k => by
  unfold minD at e
  split at e
  · cases e
    obtain ⟨v, ws, rfl, b1, b2⟩ := b.cons_inv
    obtain ⟨v2, ws2, rfl, b3, b4⟩ := b2.cons_inv
    obtain rfl := b4.nil_inv
    obtain rfl := b1.int
    obtain rfl := b3.int
    exact .inl ⟨_, _, rfl, k G H _ (Gr.refl s) (.int _)⟩
  · split at e
    · rename_i xs i is eb
      cases e
      obtain rfl := ints_eq eb
      obtain ⟨v, ws, rfl, b1, b2⟩ := b.cons_inv
      obtain rfl := b2.nil_inv
      obtain ⟨a, us, rfl, h1, q1⟩ := b1.list s
      obtain rfl := q1.ints_inv
      refine .inr ⟨a, i :: is, rfl, SqL.of h1, by simp, fun m hm hle => ?_⟩
      obtain ⟨z1, z2⟩ := minL_mem (l := i :: is) (by simp)
      have : m = minL (i :: is) := by
        have := hle _ z1
        have := z2 _ hm
        omega
      rw [this]
      exact k G H _ (Gr.refl s) (.int _)
    · cases e
  · cases e
def intD : List D → Option D
  | [.int i] => some (.int i)
  | [.bool b] => some (.int (if b then 1 else 0))
  | _ => none
theorem cad_int : CaD X c.ns (fun xs H Q => (∃ i, xs = [.int i] ∧ Q (.int i) H) ∨ ∃ k, xs = [.bl k] ∧ Q (.int (if k then 1 else 0)) H) intD := fun G H vs ds d Qk e s b k => by
  unfold intD at e
  split at e
  · cases e
    obtain ⟨v, ws, rfl, b1, b2⟩ := b.cons_inv
    obtain rfl := b2.nil_inv
    obtain rfl := b1.int
    exact .inl ⟨_, rfl, k G H _ (Gr.refl s) (.int _)⟩
  · cases e
    obtain ⟨v, ws, rfl, b1, b2⟩ := b.cons_inv
    obtain rfl := b2.nil_inv
    obtain rfl := b1.bool
    exact .inr ⟨_, rfl, k G H _ (Gr.refl s) (.int _)⟩
  · cases e
/-! ### list(x), tuple(x) -/
def listD : List D → Option D
  | [.list xs] => some (.list xs)
  | [.tuple xs] => some (.list xs)
  | _ => none
def tupleD : List D → Option D
  | [.list xs] => some (.tuple xs)
  | [.tuple xs] => some (.tuple xs)
  | _ => none
theorem cad_list : CaD X c.ns (fun xs H Q => ∃ p ys, xs = [.ref p] ∧ (SqL X.K H p ys ∨ SqT X.K H p ys) ∧ ∀ l, H l = none → Q (.ref l) (upd H l (.lst ys))) listD := fun G H vs ds d Qk e s b k => by
  unfold listD at e
  split at e
  · cases e
    obtain ⟨v, ws, rfl, b1, b2⟩ := b.cons_inv
    obtain rfl := b2.nil_inv
    obtain ⟨a, us, rfl, h1, q1⟩ := b1.list s
    exact ⟨a, us, rfl, .inl (SqL.of h1), newL s q1 rfl k⟩
  · cases e
    obtain ⟨v, ws, rfl, b1, b2⟩ := b.cons_inv
    obtain rfl := b2.nil_inv
    obtain ⟨a, us, rfl, h1, q1, _⟩ := b1.tuple s
    exact ⟨a, us, rfl, .inr h1, newL s q1 rfl k⟩
  · cases e
theorem cad_tuple : CaD X c.ns (fun xs H Q => ∃ p ys, xs = [.ref p] ∧ ((SqL X.K H p ys ∧ ∀ l, H l = none → Q (.ref l) (upd H l (.tup ys))) ∨ (SqT X.K H p ys ∧ Q (.ref p) H))) tupleD := fun G H vs ds d Qk e s b k => by
  unfold tupleD at e
  split at e
  · cases e
    obtain ⟨v, ws, rfl, b1, b2⟩ := b.cons_inv
    obtain rfl := b2.nil_inv
    obtain ⟨a, us, rfl, h1, q1⟩ := b1.list s
    exact ⟨a, us, rfl, .inl ⟨SqL.of h1, newT s q1 rfl k⟩⟩
  · cases e
    obtain ⟨v, ws, rfl, b1, b2⟩ := b.cons_inv
    obtain rfl := b2.nil_inv
    obtain ⟨a, us, rfl, h1, q1, g1⟩ := b1.tuple s
    exact ⟨a, us, rfl, .inr ⟨h1, k G H _ (Gr.refl s) (.tup g1 q1)⟩⟩
  · cases e
/-- list(range(..)) -/
def rgv (a b : Int) : List D := (List.range (b - a).toNat).map fun (i : Nat) => .int (a + (i : Nat))
theorem QA.rgv {K : PySem.W.Frag} {ns : Sc} {G : Hp} (a b : Int) : QA K ns G (rgV a b) (M.rgv a b) := by
  unfold rgV M.rgv
  generalize (List.range (b - a).toNat) = l
  induction l with
  | nil => exact .nil
  | cons i l ih => exact .cons (.int _) ih
def lrg1 (f : Rho → R D) : Rho → R D := fun ρ => (f ρ).bind fun d => match d with
  | .int j => if -1000000 ≤ j ∧ j ≤ 1000000 then .ok (.list (rgv 0 j)) else .bad
  | _ => .bad
theorem me_listRg1 {a : Expr} {f : Rho → R D} {p p2 pos pos2 : Pos} (hc : X.calm = true) (hg : Gl X "list") (hm : X.mg "list" = none) (hg2 : Gl X "range") (hm2 : X.mg "range" = none) (ha : MB X c W a f) (na : starEach [a] X.env = (false, eval a X.env) :: starEach [] X.env := by rfl)
    (nb : starEach [.Call (.Name "range" p2) [a] [] pos2] X.env = (false, eval (.Call (.Name "range" p2) [a] [] pos2) X.env) :: starEach [] X.env := by rfl) : ME X c W (.Call (.Name "list" p) [.Call (.Name "range" p2) [a] [] pos2] [] pos) (lrg1 f) :=
  PE.imp (pe_listRg hc hg hm (prg_1 hg2 hm2 ha na) nb) fun σ H Qk ⟨G, ρ, ok, p⟩ => step ok p fun x G1 H1 v _ g1 r1 ok1 p1 => by
    cases x with
    | int j =>
      obtain rfl := r1.int
      dsimp only at p1
      split at p1
      · rename_i hj
        exact ⟨j, rfl, ⟨by omega, by omega, by omega, by omega, by omega⟩, newL ok1.s (QA.rgv 0 j) rfl fun G' H' u g q => p1 G' H' u g q⟩
      · exact p1.elim
    | _ => exact p1.elim
/-! ### slices -/
def cutD {α : Type} (xs : List α) (lo hi : Option Int) : List α := (xs.drop (HT.sIx xs.length 0 lo)).take (HT.sIx xs.length xs.length hi - HT.sIx xs.length 0 lo)
theorem QA.cut {K : PySem.W.Frag} {ns : Sc} {G : Hp} {us : List V} {ds : List D} (q : QA K ns G us ds) (lo hi : Option Int) : QA K ns G (cutV us lo hi) (cutD ds lo hi) := by
  unfold cutV cutD
  rw [q.length]
  exact (q.drop _).take _
def slD (d : D) (lo hi : Option Int) : Option D := match d with
  | .list xs => some (.list (cutD xs lo hi))
  | .tuple xs => some (.tuple (cutD xs lo hi))
  | .str z => if z.length ≤ 1000000 then some (.str (cutS z lo hi)) else none
  | _ => none
def SlD (X : Cx) (ns : Sc) (r : V → Option Int → Option Int → Hp → VK → Prop) : Prop := ∀ (G H : Hp) (v : V) (x d : D) (lo hi : Option Int) (Qk : VK), slD x lo hi = some d → Sub G H → B X.K ns G H v x → (∀ G' H' u, Gr G H G' H' → Q X.K ns G' u d → Qk u H') → r v lo hi H Qk
theorem slr : SlR X (fun x lo hi H Q => rSlL X.K x lo hi H Q ∨ rSlA X.K x lo hi H Q ∨ rSlS x lo hi H Q) := sl_list.or (sl_tupA.or sl_str)
theorem sld : SlD X c.ns (fun x lo hi H Q => rSlL X.K x lo hi H Q ∨ rSlA X.K x lo hi H Q ∨ rSlS x lo hi H Q) := fun G H v x d lo hi Qk e s b k => by
  unfold slD at e
  split at e
  · cases e
    obtain ⟨a, us, rfl, h1, q1⟩ := b.list s
    exact .inl ⟨a, us, rfl, SqL.of h1, newL s (q1.cut lo hi) rfl k⟩
  · rename_i xs
    cases e
    obtain ⟨a, us, rfl, h1, q1, g1⟩ := b.tuple s
    refine .inr (.inl ⟨a, us, rfl, h1, fun ⟨z1, z2⟩ => ?_, fun _ => newT s (q1.cut lo hi) rfl k⟩)
    have e : cutD xs lo hi = xs := by
      unfold cutD
      rw [← q1.length, z1, z2]
      simp [q1.length]
    rw [e] at k
    exact k G H _ (Gr.refl s) (.tup g1 q1)
  · split at e
    · rename_i hl
      cases e
      obtain rfl := b.str
      exact .inr (.inr ⟨_, rfl, sz hl, k G H _ (Gr.refl s) (.str _)⟩)
    · cases e
  · cases e
abbrev MO (X : Cx) (c : Cm) (W : WM) (e : Option Expr) (f : Rho → R (Option Int)) : Prop := PO X e (tR X.K c W (fun _ _ (a b : Option Int) => a = b) f)
theorem PO.imp {e : Option Expr} {t t' : TO} (h : PO X e t) (i : ∀ σ H Q, t' σ H Q → t σ H Q) : PO X e t' := ⟨fun pins s σ H Q I hw => h.run pins s σ H Q I (i σ H Q hw)⟩
theorem mo_none : MO X c W none (cst none) := PO.imp po_none fun σ H Qk ⟨G, ρ, ok, p⟩ => p G H none (Gr.refl ok.s) rfl
def asI : D → Option (Option Int)
  | .int i => some (some i)
  | _ => none
theorem mo_some {e : Expr} {f : Rho → R D} (h : MB X c W e f) : MO X c W (some e) (e1 asI f) := PO.imp (po_some h) fun σ H Qk ⟨G, ρ, ok, p⟩ => step ok p fun x G1 H1 v _ g1 r1 ok1 p1 => by
  cases x with
  | int i =>
    obtain rfl := r1.int
    exact ⟨i, rfl, p1 G1 H1 _ (Gr.refl ok1.s) rfl⟩
  | _ => exact p1.elim
def slE (f : Rho → R D) (l h : Rho → R (Option Int)) : Rho → R D := fun ρ => (f ρ).bind fun x => (l ρ).bind fun lo => (h ρ).bind fun hi => R.of (slD x lo hi)
theorem me_slice {e : Expr} {lo hi : Option Expr} {f : Rho → R D} {l h : Rho → R (Option Int)} {p2 pos : Pos} (he : MB X c W e f) (hl : MO X c W lo l) (hh : MO X c W hi h) : ME X c W (.Subscript e (.Slice lo hi none p2) pos) (slE f l h) :=
  PE.imp (pe_slice slr he hl hh) fun σ H Qk ⟨G, ρ, ok, p⟩ => step ok p fun x G1 H1 v _ g1 r1 ok1 p1 => step ok1 p1 fun a G2 H2 a' _ g2 r2 ok2 p2 => step ok2 p2 fun b G3 H3 b' _ g3 r3 ok3 p3 => by
    subst r2 r3
    cases es : slD x a' b' with
    | none => rw [es] at p3; exact p3.elim
    | some d =>
      rw [es] at p3
      exact sld G3 H3 v x d a' b' Qk es ok3.s ((r1.gr g2).gr g3) p3
/-- xs[::-1], a list -/
def revD : D → Option D
  | .list xs => some (.list xs.reverse)
  | _ => none
theorem me_revL {e : Expr} {f : Rho → R D} {k : Nat} {p1 p2 p3 pos : Pos} (he : MB X c W e f) : ME X c W (.Subscript e (.Slice none none (some (.UnaryOp .USub (.Constant (.int 1) k p1) p2)) p3) pos) (e1 revD f) :=
  PE.imp (pe_revL he) fun σ H Qk ⟨G, ρ, ok, p⟩ => step ok p fun x G1 H1 v _ g1 r1 ok1 p1 => by
    cases x with
    | list xs =>
      obtain ⟨a, us, rfl, h1, q1⟩ := r1.list ok1.s
      exact ⟨a, us, rfl, SqL.of h1, newL ok1.s q1.rev rfl p1⟩
    | _ => exact p1.elim
/-! ### in -/
def flatD : D → Bool
  | .list _ => false
  | .tuple _ => false
  | .dict _ => false
  | _ => true
end
end M

namespace M
open PySem PySem.Spec PyProof.Rows L2
/-! ### isinstance -/
inductive Ty where
  | int | bool | str | list | tuple | dict
def Ty.name : Ty → String
  | .int => "int"
  | .bool => "bool"
  | .str => "str"
  | .list => "list"
  | .tuple => "tuple"
  | .dict => "dict"
def tyN : D → String
  | .none => "NoneType"
  | .bool _ => "bool"
  | .int _ => "int"
  | .str _ => "str"
  | .list _ => "list"
  | .tuple _ => "tuple"
  | .dict _ => "dict"
def isi : Ty → D → Bool
  | .int, .int _ => true
  | .int, .bool _ => true
  | .bool, .bool _ => true
  | .str, .str _ => true
  | .list, .list _ => true
  | .tuple, .tuple _ => true
  | _, _ => false
def isDict : D → Bool
  | .dict _ => true
  | _ => false
theorem kit_tab (T : Ty) (d : D) (h : isDict d = false) : kitB (tyN d) T.name = some (isi T d) := by
  cases T <;> cases d <;> first | (simp [isDict] at h; done) | (simp only [tyN, Ty.name, isi]; decide +kernel)
theorem tyX {K : PySem.W.Frag} {ns : Sc} {G H : Hp} {v : V} {d : D} (s : Sub G H) (b : B K ns G H v d) (h : isDict d = false) : TyX K H v (.type (tyN d)) := by
  rcases b with q | ⟨a, us, ds, rfl, rfl, h1, q⟩
  · cases q with
    | non => exact .base .non
    | bl b => exact .base (.bl b)
    | int i => exact .base (.int i)
    | str x => exact .base (.str x)
    | lst h1 h2 => exact .base (.lst (s _ _ h1).1)
    | tup h1 h2 =>
      rcases SqT.same s.same h1 with (h3 | ⟨o, h3⟩) | ⟨o, its, n, h3, h4, _⟩
      · exact .base (.tup h3)
      · exact .fTuple h3
      · exact .kTuple h3 h4
    | scr h1 => exact absurd h (by simp [isDict])
    | ntp is h1 h2 => exact absurd h (by simp [isDict])
    | obj j h1 h2 => exact absurd h (by simp [isDict])
    | dk ks h1 h2 => exact absurd h (by simp [isDict])
    | dt ks h1 h2 => exact absurd h (by simp [isDict])
  · exact .base (.lst h1)
def isiE (T : Ty) : D → Option D := fun d => if isDict d then none else some (.bool (isi T d))
def isiTE (T U : Ty) : D → Option D := fun d => if isDict d then none else some (.bool (isi T d || isi U d))
section
variable {X : Cx} {c : Cm} {W : WM}
theorem me_isi (T : Ty) {e e2 : Expr} {f : Rho → R D} {p pos : Pos} (hg : Gl X "isinstance") (hm : X.mg "isinstance" = none) (hv : bootBuiltins "isinstance" = some (.builtin "isinstance")) (he : MB X c W e f) (h2 : PE X e2 (tC (.ty T.name)))
    (s1 : starEach [e, e2] X.env = (false, eval e X.env) :: starEach [e2] X.env := by rfl) (s2 : starEach [e2] X.env = (false, eval e2 X.env) :: starEach [] X.env := by rfl) (hpl : (backTo pos (starEach [e2] X.env)).any (·.1) = false := by rfl) :
    ME X c W (.Call (.Name "isinstance" p) [e, e2] [] pos) (e1 (isiE T) f) :=
  PE.imp (pe_callB call_isi hg hm hv (pa_cons he (pa_cons h2 pa_nil s2) s1) (by decide) (by decide) s1 hpl) fun σ H Qk ⟨G, ρ, ok, p⟩ => step ok p fun x G1 H1 v _ g1 r1 ok1 p1 => by
    unfold isiE at p1
    cases hd : isDict x with
    | true => rw [hd] at p1; exact p1.elim
    | false =>
      rw [hd] at p1
      exact ⟨v, .ty T.name, .type (tyN x), .type T.name, isi T x, rfl, .ty _, tyX ok1.s r1 hd, kit_ty (kit_tab T x hd), p1 G1 H1 _ (Gr.refl ok1.s) (.bl _)⟩
theorem me_isiT (T U : Ty) {e a b : Expr} {f : Rho → R D} {k : Nat} {p p2 pos : Pos} (hg : Gl X "isinstance") (hm : X.mg "isinstance" = none) (hv : bootBuiltins "isinstance" = some (.builtin "isinstance")) (he : MB X c W e f) (h1 : PE X a (tC (.ty T.name))) (h2 : PE X b (tC (.ty U.name)))
    (s1 : starEach [e, .Tuple [a, b] k p2] X.env = (false, eval e X.env) :: starEach [.Tuple [a, b] k p2] X.env := by rfl) (s2 : starEach [.Tuple [a, b] k p2] X.env = (false, eval (.Tuple [a, b] k p2) X.env) :: starEach [] X.env := by rfl) (hpl : (backTo pos (starEach [.Tuple [a, b] k p2] X.env)).any (·.1) = false := by rfl)
    (s3 : starEach [a, b] X.env = (false, eval a X.env) :: starEach [b] X.env := by rfl) (s4 : starEach [b] X.env = (false, eval b X.env) :: starEach [] X.env := by rfl) :
    ME X c W (.Call (.Name "isinstance" p) [e, .Tuple [a, b] k p2] [] pos) (e1 (isiTE T U) f) :=
  PE.imp (pe_callB call_isiT hg hm hv (pa_cons he (pa_cons (pe_tup (pa_cons h1 (pa_cons h2 pa_nil s4) s3)) pa_nil s2) s1) (by decide) (by decide) s1 hpl) fun σ H Qk ⟨G, ρ, ok, p⟩ => step ok p fun x G1 H1 v _ g1 r1 ok1 p1 => by
    unfold isiTE at p1
    cases hd : isDict x with
    | true => rw [hd] at p1; exact p1.elim
    | false =>
      rw [hd] at p1
      refine ⟨by simp; decide, fun q hq => ?_⟩
      have g2 : Gr G1 H1 G1 (upd H1 q (.tup [.ty T.name, .ty U.name])) := Gr.own ok1.s hq
      refine ⟨v, q, [.ty T.name, .ty U.name], .type (tyN x), [.type T.name, .type U.name], isi T x || isi U x, rfl, upd_same, .cons (.ty _) (.cons (.ty _) .nil), tyX g2.s (r1.gr g2) hd, ?_, p1 G1 _ _ g2 (.bl _)⟩
      refine kitAny_cons (kit_ty (kit_tab T x hd)) (fun h => kitAny_cons (kit_ty (kit_tab U x hd)) (fun h' => ?_) fun h' => ?_) fun h => ?_
      · rw [h, h']; rfl
      · rw [h, h']; rfl
      · rw [h]; rfl
/-! ### in, not in -/
def inD : D → D → Option Bool
  | x, .list ds => if (SeqAt.shaped x && SeqAt.shaped (.list ds)) = true then some (ds.any fun z => PyData.eqv z x) else none
  | x, .tuple ds => if (flatD x && ds.all flatD) = true then some (ds.any fun z => PyData.eqv z x) else none
  | _, _ => none
def ninD (x y : D) : Option Bool := (inD x y).map (!·)
theorem flat_of {K : PySem.W.Frag} {ns : Sc} {G H : Hp} {v : V} {d : D} (b : B K ns G H v d) (h : flatD d = true) : flatV v = true := by
  rcases b with q | ⟨a, us, ds, rfl, rfl, h1, q⟩
  · cases q <;> first | rfl | cases h
  · cases h
theorem eq_flat {K : PySem.W.Frag} {ns : Sc} {G : Hp} {v w : V} {d e : D} (q : Q K ns G v d) (r : Q K ns G w e) (h : flatD d = true) (h' : flatD e = true) : eqV v w = PyData.eqv d e := by
  cases q <;> cases r <;> first | rfl | cases h | cases h' | simp [eqV, PyData.eqv]
theorem B.q {K : PySem.W.Frag} {ns : Sc} {G H : Hp} {v : V} {d : D} (b : B K ns G H v d) (h : flatD d = true) : Q K ns G v d := by
  rcases b with q | ⟨a, us, ds, rfl, rfl, h1, q⟩
  · exact q
  · cases h
theorem QA.flat {K : PySem.W.Frag} {ns : Sc} {G : Hp} : ∀ {us : List V} {ds : List D}, QA K ns G us ds → ds.all flatD = true → us.all flatV = true
  | _, [], h, _ => by cases h; rfl
  | _, d :: ds, h, a => by
    cases h with
    | cons h1 h2 =>
      have a' : flatD d = true ∧ ds.all flatD = true := by simpa using a
      have z := QA.flat h2 a'.2
      have y : flatV _ = true := flat_of (H := G) (.inl h1) a'.1
      simp only [List.all_cons, y, z, Bool.and_self]
theorem QA.anyEq {K : PySem.W.Frag} {ns : Sc} {G : Hp} {v : V} {x : D} (q : Q K ns G v x) (hx : flatD x = true) : ∀ {us : List V} {ds : List D}, QA K ns G us ds → ds.all flatD = true → inV v us = ds.any fun z => PyData.eqv z x
  | _, [], h, _ => by cases h; rfl
  | _, d :: ds, h, a => by
    cases h with
    | cons h1 h2 =>
      have a' : flatD d = true ∧ ds.all flatD = true := by simpa using a
      have := QA.anyEq q hx h2 a'.2
      unfold inV at this ⊢
      simp only [List.any_cons, this, eq_flat h1 q a'.1 hx]
theorem opr_in (hu : X.A.units + 65 < cLine) : OpR X (compareOp .In) (fun x y H Q => rInD X.K x y H Q ∨ rIn X.K false x y H Q) := (op_inD hu).or op_in_seq
theorem opr_nin (hu : X.A.units + 65 < cLine) : OpR X (compareOp .NotIn) (fun x y H Q => rNotInD X.K x y H Q ∨ rIn X.K true x y H Q) := (op_notInD hu).or op_notIn_seq
theorem cmd_in : CmD X c.ns (fun x y H Q => rInD X.K x y H Q ∨ rIn X.K false x y H Q) inD := fun G H v w x y d Qk e s b1 b2 k => by
  unfold inD at e
  split at e
  · split at e
    · rename_i h
      cases e
      have h' := Bool.and_eq_true_iff.mp h
      exact .inl ⟨_, _, b1.dp s h'.1, b2.dp s h'.2, h'.1, h'.2, k G H (Gr.refl s)⟩
    · cases e
  · split at e
    · rename_i h
      cases e
      have h' := Bool.and_eq_true_iff.mp h
      obtain ⟨a, us, rfl, h1, q1, _⟩ := b2.tuple s
      refine .inr ⟨a, us, rfl, .inr h1, flat_of b1 h'.1, q1.flat h'.2, ?_⟩
      rw [if_neg Bool.false_ne_true, QA.anyEq (b1.q h'.1) h'.1 q1 h'.2]
      exact k G H (Gr.refl s)
    · cases e
  · cases e
theorem cmd_nin : CmD X c.ns (fun x y H Q => rNotInD X.K x y H Q ∨ rIn X.K true x y H Q) ninD := fun G H v w x y d Qk e s b1 b2 k => by
  unfold ninD inD at e
  split at e
  · split at e
    · rename_i h
      cases e
      have h' := Bool.and_eq_true_iff.mp h
      exact .inl ⟨_, _, b1.dp s h'.1, b2.dp s h'.2, h'.1, h'.2, k G H (Gr.refl s)⟩
    · cases e
  · split at e
    · rename_i h
      cases e
      have h' := Bool.and_eq_true_iff.mp h
      obtain ⟨a, us, rfl, h1, q1, _⟩ := b2.tuple s
      refine .inr ⟨a, us, rfl, .inr h1, flat_of b1 h'.1, q1.flat h'.2, ?_⟩
      rw [if_pos rfl, QA.anyEq (b1.q h'.1) h'.1 q1 h'.2]
      exact k G H (Gr.refl s)
    · cases e
  · cases e
theorem units65 {k : Nat} {A : Around} (r : Room k A) : A.units + 65 < cLine := by have := r.un; omega
/-! ### index -/
def rIndexT (K : PySem.W.Frag) : V → List V → Hp → VK → Prop := fun x xs H Q => ∃ (a : Addr) (ys : List V) (y : V) (j : Nat) (z : V), x = V.ref a ∧ xs = [y] ∧ SqT K H a ys ∧ flatV y = true ∧ ys.all flatV = true ∧ ys[j]? = some z ∧ eqV z y = true ∧
  (∀ (m : Nat) (z' : V), m < j → ys[m]? = some z' → eqV z' y = false) ∧ Q (.int (j : Nat)) H
theorem mt_indexT : MtR X "tuple.index" (rIndexT X.K) := by
  intro pins s σ H x xs v us Q I rx rxs h
  obtain ⟨p, ys, y, j, z, rfl, rfl, hq, fy, fys, hz, hzj, hno, q⟩ := h
  cases rx
  obtain ⟨u, rfl, ru⟩ := vals1 rxs
  obtain ⟨its, r, pl, hzz⟩ := I.tuple hq
  obtain ⟨⟨cls, dd, dt, sl⟩, ho, hc, n, hd⟩ := pl
  simp only at hc hd
  subst hc
  subst hd
  have hl : its.toArray.size = ys.length := by rw [List.size_toArray, ← r.length]
  have hj : j < its.toArray.size := by rw [hl]; exact (List.getElem?_eq_some_iff.mp hz).1
  have at' : ∀ (m : Nat) (hm : m < its.toArray.size) (w : V), ys[m]? = some w → RelV w its.toArray[m] := fun m hm w hw => by
    obtain ⟨w', h1, h2⟩ := r.get (i := m) hw
    have e := (List.getElem?_eq_some_iff.mp h1).2
    rw [← e] at h2
    simpa using h2
  have fl : ∀ (m : Nat) (w : V), ys[m]? = some w → flatV w = true := fun m w hw => List.all_eq_true.mp fys w (List.mem_of_getElem? hw)
  refine call_meets PySem.F.slot_tuple_index ⟨_, ho, rfl⟩ PySem.F.entry_tuple_index (PySem.F.args_tuple_index_2 _ _) (TI.tuple_indexAt p its.toArray n dd sl u (eqU y) j hj ?_ ?_)
    ⟨ho, fun w hw => mem_eqAt (x := y) ru fy r fys w (by simpa using hw), ⟨.int (j : Nat), H, I.tok _, ⟨_, rfl⟩, q⟩⟩
  · rw [eqU_of (at' j hj z hz) (fl j z hz)]
    exact hzj
  · intro m hm hmj
    have hmy : m < ys.length := by rw [← hl]; exact hm
    have e := List.getElem?_eq_getElem hmy
    rw [eqU_of (at' m hm _ e) (fl m _ e)]
    exact hno m _ hmj e
/-- the first place -/
def findI (x : D) : List D → Option Nat
  | [] => none
  | d :: ds => if PyData.eqv d x then some 0 else (findI x ds).map (· + 1)
theorem findI_spec {x : D} : ∀ {ds : List D} {j : Nat}, findI x ds = some j → ∃ z, ds[j]? = some z ∧ PyData.eqv z x = true ∧ ∀ (m : Nat) (z' : D), m < j → ds[m]? = some z' → PyData.eqv z' x = false
  | [], _, h => by cases h
  | d :: ds, j, h => by
    unfold findI at h
    split at h
    · rename_i hd
      cases h
      exact ⟨d, rfl, hd, fun m z' hm _ => absurd hm (Nat.not_lt_zero m)⟩
    · rename_i hd
      cases e : findI x ds with
      | none => rw [e] at h; cases h
      | some i =>
        rw [e] at h
        cases h
        obtain ⟨z, h1, h2, h3⟩ := findI_spec e
        refine ⟨z, by simpa using h1, h2, fun m z' hm hz' => ?_⟩
        cases m with
        | zero =>
          simp at hz'
          subst hz'
          simpa using hd
        | succ m => exact h3 m z' (by simpa using hm) (by simpa using hz')
def idxD : D → D → Option D
  | .tuple ds, x => if (flatD x && ds.all flatD) = true then (findI x ds).map fun j => .int (j : Nat) else none
  | .list ds, x => if (flatD x && ds.all flatD) = true then (findI x ds).map fun j => .int (j : Nat) else none
  | _, _ => none
theorem idx_road {K : PySem.W.Frag} {ns : Sc} {G : Hp} {v : V} {us : List V} {x : D} {ds : List D} {j : Nat} (q : Q K ns G v x) (qs : QA K ns G us ds) (h : (flatD x && ds.all flatD) = true) (e : findI x ds = some j) :
    flatV v = true ∧ us.all flatV = true ∧ ∃ z, us[j]? = some z ∧ eqV z v = true ∧ ∀ (m : Nat) (z' : V), m < j → us[m]? = some z' → eqV z' v = false := by
  have h' := Bool.and_eq_true_iff.mp h
  have fl : ∀ (m : Nat) (w : D), ds[m]? = some w → flatD w = true := fun m w hw => List.all_eq_true.mp h'.2 w (List.mem_of_getElem? hw)
  obtain ⟨z, h1, h2, h3⟩ := findI_spec e
  obtain ⟨w, hw, qw⟩ := qs.get h1
  refine ⟨flat_of (H := G) (.inl q) h'.1, qs.flat h'.2, w, hw, ?_, fun m z' hm hz' => ?_⟩
  · rw [eq_flat qw q (fl j z h1) h'.1]; exact h2
  · have hml : m < ds.length := by rw [← qs.length]; exact (List.getElem?_eq_some_iff.mp hz').1
    have e1 := List.getElem?_eq_getElem hml
    obtain ⟨w', hw', qw'⟩ := qs.get e1
    rw [hz'] at hw'
    cases hw'
    rw [eq_flat qw' q (fl m _ e1) h'.1]
    exact h3 m _ hm e1
theorem PE.or {e : Expr} {t t' : TE} (h : PE X e t) (h' : PE X e t') : PE X e (fun σ H Q => t σ H Q ∨ t' σ H Q) := ⟨fun pins s σ H Q I hw => by
  rcases hw with hw | hw
  · exact h.run pins s σ H Q I hw
  · exact h'.run pins s σ H Q I hw⟩
def idxL : D → D → Option D
  | .list ds, x => if (flatD x && ds.all flatD) = true then (findI x ds).map fun j => .int (j : Nat) else none
  | _, _ => none
theorem me_idxL {E : Expr} {f g : Rho → R D} (h2 : PE X E (tBM X.K "list" (rIndex X.K) (tR X.K c W (RelB X.K c.ns) f) (tCons (tR X.K c W (RelB X.K c.ns) g) tNil))) : ME X c W E (fun ρ => (f ρ).bind fun d => match d with
    | .list ds => (g ρ).bind fun x => R.of (idxL (.list ds) x)
    | _ => .bad) :=
  PE.imp h2 fun σ H Qk ⟨G, ρ, ok, p⟩ => step ok p fun d G1 H1 v _ g1 r1 ok1 p1 => by
    cases d with
    | list ds =>
      obtain ⟨a, us, rfl, h1, q1⟩ := r1.list ok1.s
      refine ⟨tyL h1, step ok1 p1 fun y G2 H2 w _ g2 r2 ok2 p2 => ?_⟩
      unfold idxL at p2
      dsimp only at p2
      by_cases hf : (flatD y && ds.all flatD) = true
      · rw [if_pos hf] at p2
        cases ej : findI y ds with
        | none => rw [ej] at p2; exact p2.elim
        | some j =>
          rw [ej] at p2
          obtain ⟨a, us, e3, h3, q3⟩ := (r1.gr g2).list ok2.s
          cases e3
          obtain ⟨f1, f2, z, f3, f4, f5⟩ := idx_road (r2.q (Bool.and_eq_true_iff.mp hf).1) q3 hf ej
          exact ⟨_, us, w, j, z, rfl, rfl, SqL.of h3, f1, f2, f3, f4, f5, p2 G2 H2 _ (Gr.refl ok2.s) (.int _)⟩
      · rw [if_neg hf] at p2; exact p2.elim
    | _ => exact p1.elim
/-! ### the module's own -/
/-- a tuple of the module's text: its ints -/
structure KTup (K : PySem.W.Frag) (mg : Str → Option Value) (x : Str) (is : List Int) : Prop where
  ex : ∃ (a : Addr) (o : Obj) (its : Array Value) (n : Nat), mg x = some (.ref a) ∧ K.lookup a = some o ∧ o.cls = .type "tuple" ∧ o.dict = none ∧ o.data = .seq its n ∧ its.size ≤ sizeLine ∧ Vals (is.map V.int) its.toList
theorem me_globT {x : Str} {is : List Int} {pos : Pos} (k : KTup X.K X.mg x is) (hg : Gl X x) (hd : (x == ("__debug__" : Str)) = false := by decide) : ME X c W (.Name x pos) (cst (.tuple (is.map .int))) := by
  obtain ⟨a, o, its, n, h1, h2, h3, h4, h5, h6, h7⟩ := k.ex
  exact me_cst (v := .ref a) (pe_glob hg h1 rfl hd) fun G => .tup (.inr ⟨o, its, n, h2, h3, h5, h6, h7⟩) QA.ints
theorem me_globI {x : Str} {i : Int} {t : Tok} {pos : Pos} (hg : Gl X x) (hm : X.mg x = some (.int i t)) (hd : (x == ("__debug__" : Str)) = false := by decide) : ME X c W (.Name x pos) (cst (.int i)) := me_cst (v := .int i) (pe_glob hg hm ⟨t, rfl⟩ hd) fun G => .int i
def idxK (is : List Int) : D → Option D := fun x => if flatD x = true then (findI x (is.map .int)).map fun j => .int (j : Nat) else none
theorem flat_ints (is : List Int) : (is.map PyData.int).all flatD = true := by
  induction is with
  | nil => rfl
  | cons i is ih => show (flatD (.int i) && (is.map PyData.int).all flatD) = true; rw [ih]; rfl
theorem me_idxK {x : Str} {is : List Int} {E : Expr} {g : Rho → R D} {pos : Pos} (k : KTup X.K X.mg x is) (hg : Gl X x) (hp : ∀ {to : TE}, PE X (.Name x pos) to → PE X E (tBM X.K "tuple" (rIndexT X.K) to (tCons (tR X.K c W (RelB X.K c.ns) g) tNil))) (hd : (x == ("__debug__" : Str)) = false := by decide) : ME X c W E (e1 (idxK is) g) := by
  obtain ⟨a, o, its, n, h1, h2, h3, h4, h5, h6, h7⟩ := k.ex
  refine PE.imp (hp (pe_glob (v := .ref a) hg h1 rfl hd)) fun σ H Qk ⟨G, ρ, ok, p⟩ => ⟨.inr (.inl ⟨rfl, o, h2, h3, h4⟩), step ok p fun y G1 H1 w _ g1 r1 ok1 p1 => ?_⟩
  unfold idxK at p1
  by_cases hf : flatD y = true
  · rw [if_pos hf] at p1
    cases ej : findI y (is.map .int) with
    | none => rw [ej] at p1; exact p1.elim
    | some j =>
      rw [ej] at p1
      obtain ⟨f1, f2, z, f3, f4, f5⟩ := idx_road (r1.q hf) (QA.ints (is := is)) (by rw [hf, flat_ints]; rfl) ej
      exact ⟨a, _, w, j, z, rfl, rfl, .inr ⟨o, its, n, h2, h3, h5, h6, h7⟩, f1, f2, f3, f4, f5, p1 G1 H1 _ (Gr.refl ok1.s) (.int _)⟩
  · rw [if_neg hf] at p1; exact p1.elim
/-! ### a call that lends lists of one's own; what it tells is flat -/
def unt (H : Hp) : Hp := fun b => match H b with
  | some (.tbl _) => none
  | o => o
theorem unt_sub (H : Hp) : Sub (unt H) H := fun b o h => by
  unfold unt at h
  cases e : H b with
  | none => rw [e] at h; cases h
  | some u => cases u <;> rw [e] at h <;> cases h <;> exact ⟨rfl, fun _ z => nomatch z⟩
theorem unt_same {G H : Hp} (s : Sub G H) : Same G (unt H) := fun b o h => by
  obtain ⟨h1, h2⟩ := s b o h
  unfold unt
  rw [h1]
  cases o <;> first | rfl | exact absurd rfl (h2 _)
theorem BA.lend {K : PySem.W.Frag} {ns : Sc} {G H : Hp} (s : Sub G H) : ∀ {vs : List V} {ds : List D}, BA K ns G H vs ds → QA K ns (unt H) vs ds := fun h => by
  induction h with
  | nil => exact .nil
  | cons b _ ih =>
    refine .cons ?_ ih
    rcases b with q | ⟨a, us, ds, rfl, rfl, h1, q⟩
    · exact Q.mono (unt_same s) _ _ q
    · refine .lst ?_ (QA.mono (unt_same s) _ _ q)
      unfold unt
      rw [h1]
theorem Q.flat {K : PySem.W.Frag} {ns : Sc} {G G' : Hp} {v : V} {d : D} (q : Q K ns G v d) (h : flatD d = true) : Q K ns G' v d := by
  cases q with
  | non => exact .non
  | bl b => exact .bl b
  | int i => exact .int i
  | str x => exact .str x
  | _ => cases h
def flatR : Out → R D
  | .rt x => if flatD x then .ok x else .bad
  | .rz z _ => .rz z
  | _ => .bad
def lcall (f : List D → Out) (g : Rho → R (List D)) : Rho → R D := fun ρ => (g ρ).bind fun ds => flatR (f ds)
theorem me_lcall {k : Nat} {fa : Addr} {fd : FuncData} {ps : List Str} {x : Str} {p pos : Pos} {e : Expr} {es : List Expr} {f : List D → Out} {g : Rho → R (List D)} (F : FnOk X.prog X.w X.K X.mg X.base CX0 k fa fd ps (spM X.K c.ns X.mg f)) (hr : Room k X.A) (hg : Gl X x) (hm : X.mg x = some (.ref fa)) (hk : PySem.W.keepIn X.K (.ref fa) = true) (hb : Binds X.K fd ps [])
    (ha : MBA X c W0 (e :: es) g) (hdb : (x == ("__debug__" : Str)) = false := by decide) (he : starEach (e :: es) X.env = (false, eval e X.env) :: starEach es X.env := by rfl) (hpl : (backTo pos (starEach es X.env)).any (·.1) = false := by rfl) :
    ME X c W0 (.Call (.Name x p) (e :: es) [] pos) (lcall f g) :=
  PE.imp (pe_call F hr hg hm hk hb .nil pass0 ha hdb he hpl) fun σ H Qk ⟨G, ρ, ok, p⟩ => step ok p fun ds G1 H1 vs _ g1 r1 ok1 p1 => by
    show spM X.K c.ns X.mg f (vs ++ []) H1 Qk E0
    rw [List.append_nil]
    refine ⟨unt H1, ds, unt_sub H1, r1.lend ok1.s, ?_⟩
    have back : ∀ {G' H' : Hp}, Gr (unt H1) H1 G' H' → Gr G1 H1 G1 H' := fun g => ⟨Same.refl _, g.h, ok1.s.ex g.h, fun _ _ _ _ z => z⟩
    cases e : f ds with
    | rt x =>
      rw [e] at p1
      unfold flatR at p1
      dsimp only at p1
      by_cases hf : flatD x = true
      · rw [if_pos hf] at p1
        exact fun G' H' v g q => p1 G1 H' v (back g) (q.flat hf)
      · rw [if_neg hf] at p1; exact p1.elim
    | rz z ρ' => rw [e] at p1; exact fun G' H' g C _ => p1 G1 H' (back g)
    | _ => rw [e] at p1; exact p1.elim
/-! ### sorted, of ints -/
def ins (x : Int) : List Int → List Int
  | [] => [x]
  | y :: r => if x ≤ y then x :: y :: r else y :: ins x r
def sortI : List Int → List Int
  | [] => []
  | x :: r => ins x (sortI r)
theorem ins_perm (x : Int) : ∀ l : List Int, (ins x l).Perm (x :: l)
  | [] => .refl _
  | y :: r => by
    unfold ins
    split
    · exact .refl _
    · exact ((ins_perm x r).cons y).trans (.swap x y r)
theorem sortI_perm : ∀ l : List Int, (sortI l).Perm l
  | [] => .refl _
  | x :: r => (ins_perm x (sortI r)).trans ((sortI_perm r).cons x)
theorem ins_sorted (x : Int) : ∀ {l : List Int}, l.Pairwise (· ≤ ·) → (ins x l).Pairwise (· ≤ ·)
  | [], _ => by simp [ins]
  | y :: r, h => by
    unfold ins
    have h' := List.pairwise_cons.mp h
    split
    · rename_i hx
      exact List.pairwise_cons.mpr ⟨fun z hz => by
        rcases List.mem_cons.mp hz with rfl | hz
        · exact hx
        · exact Int.le_trans hx (h'.1 z hz), h⟩
    · rename_i hx
      refine List.pairwise_cons.mpr ⟨fun z hz => ?_, ins_sorted x h'.2⟩
      rcases List.mem_cons.mp ((ins_perm x r).mem_iff.mp hz) with rfl | hz
      · omega
      · exact h'.1 z hz
theorem sortI_sorted : ∀ l : List Int, (sortI l).Pairwise (· ≤ ·)
  | [] => .nil
  | x :: r => ins_sorted x (sortI_sorted r)
theorem sorted_uniq : ∀ {l m : List Int}, l.Perm m → l.Pairwise (· ≤ ·) → m.Pairwise (· ≤ ·) → l = m := by
  intro l m p h1 h2
  exact List.Perm.eq_of_pairwise (fun a b _ _ h h' => Int.le_antisymm h h') h1 h2 p
def sortD : List D → Option D
  | [.list xs] => (intsOf xs).map fun is => .list ((sortI is).map .int)
  | _ => none
theorem cad_sorted : CaD X c.ns (rSortedI X.K) sortD := fun G H vs ds d Qk e s b k => by
  unfold sortD at e
  split at e
  · rename_i xs
    cases eb : intsOf xs with
    | none => rw [eb] at e; cases e
    | some bs =>
      rw [eb] at e
      cases e
      obtain rfl := ints_eq eb
      obtain ⟨v, ws, rfl, b1, b2⟩ := b.cons_inv
      obtain rfl := b2.nil_inv
      obtain ⟨a, us, rfl, h1, q1⟩ := b1.list s
      obtain rfl := q1.ints_inv
      refine ⟨a, bs, rfl, SqL.of h1, fun ns' p hp hs hn => ?_⟩
      have e : ns' = sortI bs := sorted_uniq (hp.trans (sortI_perm bs).symm) hs (sortI_sorted bs)
      rw [e]
      exact newL s QA.ints rfl k p hn
  · cases e
end
end M

namespace M
open PySem PySem.Spec PyProof.Rows L2
/-! ### the script -/
def isScr (i : Nat) (ρ : Rho) : Bool := match ρ[i]? with
  | some (.d (.dict [(.none, .none)])) => true
  | _ => false
section
variable {X : Cx} {c : Cm} {W : WM}
theorem scr_of {K : PySem.W.Frag} {G H : Hp} {ρ : Rho} {σ : L2.St} {i : Nat} (ok : Ok K c G H ρ σ) (h : isScr i ρ = true) : ∃ a, σ[i]? = some (some (.ref a)) ∧ SqL K H a (c.ns.l.map V.int) := by
  unfold isScr at h
  split at h
  · rename_i e
    obtain ⟨u, e2, q⟩ := ok.sl i _ e
    cases q with
    | scr h1 => exact ⟨_, e2, ok.s.same.seq h1⟩
    | obj j h1 h2 => cases h2
    | dk ks h1 h2 => cases ks <;> cases h2
    | dt ks h1 h2 => cases ks <;> cases h2
  · cases h
def lenS (ns : List Int) (i : Nat) : Rho → R D := fun ρ => if isScr i ρ then .ok (.int ns.length) else .bad
theorem me_lenS (i : Nat) {e : Expr} {p pos : Pos} (hg : Gl X "len") (hm : X.mg "len" = none) (hv : bootBuiltins "len" = some (.builtin "len")) (he : PE X e (tVar i)) (s1 : starEach [e] X.env = (false, eval e X.env) :: starEach [] X.env := by rfl) (hpl : (backTo pos (starEach [] X.env)).any (·.1) = false := by rfl) :
    ME X c W (.Call (.Name "len" p) [e] [] pos) (lenS c.ns.l i) :=
  PE.imp (pe_callB call_len hg hm hv (pa_cons he pa_nil s1) (by decide) (by decide) s1 hpl) fun σ H Qk ⟨G, ρ, ok, p⟩ => by
    unfold lenS at p
    by_cases h : isScr i ρ = true
    · rw [if_pos h] at p
      obtain ⟨a, e1, hs⟩ := scr_of ok h
      exact ⟨_, e1, _, c.ns.l.length, rfl, .inl ⟨_, hs, by simp⟩, p G H _ (Gr.refl ok.s) (.int _)⟩
    · rw [if_neg h] at p; exact p.elim
def ixS (ns : List Int) (i : Nat) (g : Rho → R D) : Rho → R D := fun ρ => if isScr i ρ then (g ρ).bind fun k => match k with
  | .int k => R.of ((atI ns k).map .int)
  | _ => .bad else .bad
theorem me_ixS (i : Nat) {e k : Expr} {g : Rho → R D} {pos : Pos} (he : PE X e (tVar i)) (hk : MB X c W k g) (hs : PlainIx k) : ME X c W (.Subscript e k pos) (ixS c.ns.l i g) :=
  PE.imp (pe_ix ix_list he hk hs) fun σ H Qk ⟨G, ρ, ok, p⟩ => by
    unfold ixS at p
    by_cases h : isScr i ρ = true
    · rw [if_pos h] at p
      obtain ⟨a, e1, _⟩ := scr_of ok h
      refine ⟨_, e1, step ok p fun x G1 H1 v _ g1 r1 ok1 p1 => ?_⟩
      obtain ⟨a', e1', hs'⟩ := scr_of ok1 h
      rw [e1] at e1'
      cases e1'
      cases x with
      | int k =>
        obtain rfl := r1.int
        dsimp only at p1
        cases ea : atI c.ns.l k with
        | none => rw [ea] at p1; exact p1.elim
        | some n =>
          rw [ea] at p1
          refine ⟨a, _, k, .int n, rfl, rfl, hs', ?_, p1 G1 H1 _ (Gr.refl ok1.s) (.int n)⟩
          unfold atI at ea ⊢
          rw [List.length_map]
          cases ei : ixN c.ns.l.length k with
          | none => rw [ei] at ea; cases ea
          | some j =>
            rw [ei] at ea
            show (c.ns.l.map V.int)[j]? = _
            rw [List.getElem?_map]
            rw [show c.ns.l[j]? = some n from ea]
            rfl
      | _ => exact p1.elim
    · rw [if_neg h] at p; exact p.elim
def nilS (ns : List Int) (i : Nat) : Rho → R Bool := fun ρ => if isScr i ρ then .ok (decide (ns = [])) else .bad
theorem dpS {K : PySem.W.Frag} {H : Hp} : ∀ ns : List Int, DpAll K H (ns.map V.int) (ns.map .int)
  | [] => .nil
  | n :: ns => .cons (.int n) (dpS ns)
theorem lay_ints : ∀ ns : List Int, PyData.canLayAll0 (ns.map .int) = true
  | [] => by simp [PyData.canLayAll0]
  | n :: ns => by simp [PyData.canLayAll0, PyData.canLay0, lay_ints ns]
theorem depth_ints : ∀ ns : List Int, PyData.depthAll (ns.map .int) = 0
  | [] => by simp [PyData.depthAll]
  | n :: ns => by simp [PyData.depthAll, PyData.depth, depth_ints ns]
theorem shaped_ints (ns : List Int) : SeqAt.shaped (.list (ns.map .int)) = true := by
  simp [SeqAt.shaped, PyData.canLay0, lay_ints, PyData.depth, depth_ints]
theorem shaped_tints (ns : List Int) : SeqAt.shaped (.tuple (ns.map .int)) = true := by
  simp [SeqAt.shaped, PyData.canLay0, lay_ints, PyData.depth, depth_ints]
theorem mt_nilS (hu : X.A.units + 64 < cLine) (i : Nat) {e : Expr} {pos pos2 : Pos} (he : PE X e (tVar i)) : MT X c W (.Compare e [.Eq] [.List [] pos2] pos) (nilS c.ns.l i) :=
  PT.imp (pt_cmpR (op_eqD hu) he (pe_lst pa_nil) (nomark _)) fun σ H Qk ⟨G, ρ, ok, p⟩ => by
    unfold nilS at p
    by_cases h : isScr i ρ = true
    · rw [if_pos h] at p
      obtain ⟨a, e1, hs⟩ := scr_of ok h
      refine ⟨_, e1, Nat.zero_le _, fun q hq => ?_⟩
      have g2 : Gr G H G (upd H q (.lst [])) := Gr.own ok.s hq
      obtain ⟨a', e1', hs'⟩ := scr_of (ok.gr g2) h
      rw [e1] at e1'
      cases e1'
      refine ⟨.list (c.ns.l.map .int), .list [], .lst hs' (dpS _), .lst (SqL.of upd_same) .nil, shaped_ints _, by decide +kernel, _, rfl, ?_⟩
      have e2 : PyData.eqv (.list (c.ns.l.map .int)) (.list []) = decide (c.ns.l = []) := by
        cases c.ns.l with
        | nil => simp [PyData.eqv, PyData.eqvAll]
        | cons n ns => simp [PyData.eqv, PyData.eqvAll]
      rw [e2]
      exact p G _ _ g2 rfl
    · rw [if_neg h] at p; exact p.elim
end
/-- the script's cell at k -/
def cell (ns : List Int) (k : Int) : Int := if k < ns.length then (atI ns k).getD 0 else if ns = [] then 0 else (atI ns (k % ns.length)).getD 0 * 31 + k
def pick (ns : List Int) (k many : Int) : Int :=
  let drawn := (cell ns k + 6151 * (k + 1)) * 40692 % 2147483399
  (drawn * drawn + drawn / 31) % 2147483629 % many
theorem pick_lo {ns : List Int} {k many : Int} (h : 0 < many) : 0 ≤ pick ns k many := Int.emod_nonneg _ (by omega)
theorem pick_hi {ns : List Int} {k many : Int} (h : 0 < many) : pick ns k many < many := Int.emod_lt_of_pos _ h
/-- a promise by another function that tells the same -/
theorem FnOk.by {P : Program} {w : World} {K : PySem.W.Frag} {mg : Str → Option Value} {base : Heap} {CX : CXT} {k : Nat} {f : Addr} {fd : FuncData} {ps : List Str} {ns : Sc} {m m' : List D → Out} (F : FnOk P w K mg base CX k f fd ps (spM K ns mg m)) (h : ∀ ds, m' ds ≠ .bad → m ds = m' ds) : FnOk P w K mg base CX k f fd ps (spM K ns mg m') :=
  F.imp fun vs H Qk E ⟨G, ds, s, q, p⟩ => ⟨G, ds, s, q, by
    by_cases hb : m' ds = .bad
    · rw [hb] at p; exact p.elim
    · rw [h ds hb]; exact p⟩
/-- _law_cell, _law_pick as functions of the script's draws -/
def cellF (C : Int → Int) : List D → Out
  | [.dict [(.none, .none)], .int k] => if 0 ≤ k then .rt (.int (C k)) else .bad
  | _ => .bad
def pickF (P : Int → Int → Int) : List D → Out
  | [.dict [(.none, .none)], .int k, .int m] => if 0 ≤ k ∧ 0 < m then .rt (.int (P k m)) else .bad
  | _ => .bad
end M

namespace M
open PySem PySem.Spec PyProof.Rows L2
/-! ### built-ins by name -/
theorem bt_len : bootBuiltins "len" = some (.builtin "len") := by decide +kernel
theorem bt_abs : bootBuiltins "abs" = some (.builtin "abs") := by decide +kernel
theorem bt_all : bootBuiltins "all" = some (.builtin "all") := by decide +kernel
theorem bt_any : bootBuiltins "any" = some (.builtin "any") := by decide +kernel
theorem bt_sum : bootBuiltins "sum" = some (.builtin "sum") := by decide +kernel
theorem bt_min : bootBuiltins "min" = some (.builtin "min") := by decide +kernel
theorem bt_max : bootBuiltins "max" = some (.builtin "max") := by decide +kernel
theorem bt_sorted : bootBuiltins "sorted" = some (.builtin "sorted") := by decide +kernel
theorem bt_isinstance : bootBuiltins "isinstance" = some (.builtin "isinstance") := by decide +kernel
theorem bt_int : bootBuiltins "int" = some (.type "int") := by decide +kernel
theorem bt_bool : bootBuiltins "bool" = some (.type "bool") := by decide +kernel
theorem bt_str : bootBuiltins "str" = some (.type "str") := by decide +kernel
theorem bt_list : bootBuiltins "list" = some (.type "list") := by decide +kernel
theorem bt_tuple : bootBuiltins "tuple" = some (.type "tuple") := by decide +kernel
theorem bt_dict : bootBuiltins "dict" = some (.type "dict") := by decide +kernel
theorem bt_set : bootBuiltins "set" = some (.type "set") := by decide +kernel
section
variable {X : Cx} {c : Cm} {W : WM}
/-! ### lists that are made, as one's own -/
def OpN (X : Cx) (ns : Sc) (r : R2) (o : D → D → Option (List D)) : Prop := ∀ (G H : Hp) (v w : V) (x y : D) (ds : List D) (Qk : VK), o x y = some ds → Sub G H → B X.K ns G H v x → B X.K ns G H w y → (∀ us, QA X.K ns G us ds → ∀ p, H p = none → Qk (.ref p) (upd H p (.lst us))) → r v w H Qk
theorem mn_op {op : Operator} {r : R2} {o : D → D → Option (List D)} {a b : Expr} {f g : Rho → R D} {pos : Pos} (ho : OpR X (binaryOp op) r) (hr : OpN X c.ns r o) (ha : MB X c W a f) (hb : MB X c W b g) : MN X c W (.BinOp a op b pos) (nO (e2 o f g)) :=
  PE.imp (pe_op ho ha hb) fun σ H Qk ⟨G, ρ, ok, p⟩ => by
    have e0 : nO (e2 o f g) ρ = (f ρ).bind fun x => (g ρ).bind fun y => (R.of (o x y)).bind fun xs => .ok (.o xs) := by
      unfold nO e2
      cases f ρ with
      | ok x => cases g ρ <;> rfl
      | _ => rfl
    rw [e0] at p
    exact stepN ok p fun x G1 H1 v _ g1 r1 ok1 p1 => stepN ok1 p1 fun y G2 H2 w _ g2 r2 ok2 p2 => by
      cases e : o x y with
      | none => rw [e] at p2; exact p2.elim
      | some ds =>
        rw [e] at p2
        exact hr G2 H2 v w x y ds Qk e ok2.s (r1.gr g2) r2 fun us q p hp => p2 G2 _ _ (Gr.own ok2.s hp) ⟨p, us, rfl, upd_same, ok2.s.free hp, Nw.none hp, q⟩
def catN : D → D → Option (List D)
  | .list xs, .list ys => if xs.length + ys.length ≤ 1000000 then some (xs ++ ys) else none
  | _, _ => none
theorem opn_cat : OpN X c.ns rCat catN := fun G H v w x y d Qk e s b1 b2 k => by
  unfold catN at e
  split at e
  · split at e
    · rename_i hl
      cases e
      obtain ⟨a, us, rfl, h1, q1⟩ := b1.list s
      obtain ⟨b, ws, rfl, h2, q2⟩ := b2.list s
      exact ⟨a, b, us, ws, rfl, rfl, h1, h2, by rw [q1.length, q2.length]; exact sz hl, k _ (q1.append q2)⟩
    · cases e
  · cases e
def repN : D → D → Option (List D)
  | .list xs, .int k => if k ≤ 1000000 ∧ -1000000 ≤ k ∧ xs.length * k.toNat ≤ 1000000 then some (rep k.toNat xs) else none
  | _, _ => none
theorem opn_rep : OpN X c.ns rRep repN := fun G H v w x y d Qk e s b1 b2 k => by
  unfold repN at e
  split at e
  · split at e
    · rename_i hc
      cases e
      obtain ⟨a, us, rfl, h1, q1⟩ := b1.list s
      obtain rfl := b2.int
      exact ⟨a, _, us, rfl, rfl, h1, by omega, by omega, by rw [q1.length]; exact sz hc.2.2, k _ (q1.rep _)⟩
    · cases e
  · cases e
end
end M

namespace M
open PySem PySem.Spec PyProof.Rows L2
def idxE (f g : Rho → R D) : Rho → R D := fun ρ => (f ρ).bind fun d => match d with
    | .list ds => (g ρ).bind fun x => R.of (idxL (.list ds) x)
    | _ => .bad
theorem scr_unt {K : PySem.W.Frag} {H : Hp} {a : Addr} {xs : List V} (h : SqL K H a xs) : SqL K (unt H) a xs := by
  rcases h with (h | ⟨o, h⟩) | h
  · exact .inl (.inl (by unfold unt; rw [h]))
  · exact .inl (.inr ⟨o, by unfold unt; rw [h]⟩)
  · exact .inr h
theorem cell_mir (ns : List Int) : ∀ ds, cellF (cell ns) ds ≠ .bad → fnM0 2 2 (sSeq (sIf (e2 ltD (bnm 1) (lenS ns 0)) (sRet (ixS ns 0 (bnm 1))) sNil) (sSeq (sIf (nilS ns 0) (sRet (cst (.int 0))) sNil) (sRet (e2 addD (e2 mulD (ixS ns 0 (e2 modD (bnm 1) (lenS ns 0))) (cst (.int 31))) (bnm 1))))) ds = cellF (cell ns) ds := by
  intro ds hb
  unfold cellF at hb ⊢
  split at hb
  · rename_i k
    split at hb
    · rename_i hk
      rw [if_pos hk]
      have key : ∀ j : Int, 0 ≤ j → j < ns.length → ∃ n, atI ns j = some n := fun j h0 h1 => by
        unfold atI ixN
        rw [if_pos h0, if_pos h1]
        exact ⟨ns[j.toNat]'(by omega), List.getElem?_eq_getElem (by omega)⟩
      unfold cell
      by_cases h1 : k < (ns.length : Int)
      · obtain ⟨n, hn⟩ := key k hk h1
        simp [fnM0, fnM, sSeq, sIf, e2, bnm, lenS, isScr, R.bind, R.of, R.out, ltD, h1, sRet, ixS, hn]
      · by_cases h2 : ns = []
        · subst h2
          have h0 : ¬ k < 0 := by omega
          simp [h0, fnM0, fnM, sSeq, sIf, e2, bnm, lenS, isScr, R.bind, R.of, R.out, ltD, h1, sRet, ixS, sNil, nilS, cst]
        · have hpos : (0 : Int) < ns.length := by
            have : 0 < ns.length := List.length_pos_iff.mpr h2
            omega
          obtain ⟨n, hn⟩ := key (k % ns.length) (Int.emod_nonneg _ (by omega)) (Int.emod_lt_of_pos _ hpos)
          have h3 : (0 : Int) < (ns.length : Int) := hpos
          simp [fnM0, fnM, sSeq, sIf, e2, bnm, lenS, isScr, R.bind, R.of, R.out, ltD, h1, sRet, ixS, sNil, nilS, cst, h2, modD, mulD, addD, hn]
          rw [if_pos (List.length_pos_iff.mpr h2)]
          simp [hn]
    · exact absurd rfl hb
  · exact absurd rfl hb
def pickB (f : List D → Out) : Rho → Out := sSeq (sSet 3 (nD (e2 modD (e2 mulD (e2 addD (call f (cons' (nm 0) (cons' (nm 1) (cst [])))) (e2 mulD (cst (.int 6151)) (e2 addD (bnm 1) (cst (.int 1))))) (cst (.int 40692))) (cst (.int 2147483399)))))
  (sRet (e2 modD (e2 modD (e2 addD (e2 mulD (bnm 3) (bnm 3)) (e2 fdivD (bnm 3) (cst (.int 31)))) (cst (.int 2147483629))) (bnm 2)))
theorem pick_mir (ns : List Int) : ∀ ds, pickF (pick ns) ds ≠ .bad → fnM0 3 4 (pickB (cellF (cell ns))) ds = pickF (pick ns) ds := by
  intro ds hb
  unfold pickF at hb ⊢
  split at hb
  · rename_i k m
    split at hb
    · rename_i hk
      rw [if_pos hk]
      have hd : ∀ x : Int, (-18446744073709551616 < x % 2147483399 ∧ x % 2147483399 < 18446744073709551616) := fun x => by
        have h1 := Int.emod_nonneg x (show (2147483399 : Int) ≠ 0 by decide)
        have h2 := Int.emod_lt_of_pos x (show (0 : Int) < 2147483399 by decide)
        omega
      have hz := hd ((cell ns k + 6151 * (k + 1)) * 40692)
      simp [pickB, fnM0, fnM, sSeq, sSet, nD, e2, bnm, nm, R.bind, R.of, R.out, sRet, cst, modD, mulD, addD, fdivD, call, cons', cellF, hk.1, hk.2, Out.r, pick, hz]
    · exact absurd rfl hb
  · exact absurd rfl hb
end M

namespace M
open PySem
/-! ### plain facts about the mirrors' words -/
theorem eqvAll_ints : ∀ xs ys : List Int, PyData.eqvAll (xs.map .int) (ys.map .int) = decide (xs = ys)
  | [], [] => by simp [PyData.eqvAll]
  | [], y :: ys => by simp [PyData.eqvAll]
  | x :: xs, [] => by simp [PyData.eqvAll]
  | x :: xs, y :: ys => by
    simp only [List.map_cons, PyData.eqvAll, PyData.eqv, eqvAll_ints xs ys, List.cons.injEq, Bool.decide_and]
    congr 1
theorem eqD_ints (xs ys : List Int) : eqD (.list (xs.map .int)) (.list (ys.map .int)) = some (decide (xs = ys)) := by
  unfold eqD
  rw [shaped_ints, shaped_ints, if_pos (by rfl)]
  simp only [PyData.eqv, eqvAll_ints]
theorem eqD_tints (xs ys : List Int) : eqD (.tuple (xs.map .int)) (.tuple (ys.map .int)) = some (decide (xs = ys)) := by
  unfold eqD
  rw [shaped_tints, shaped_tints, if_pos (by rfl)]
  simp only [PyData.eqv, eqvAll_ints]
theorem neD_ints (xs ys : List Int) : neD (.list (xs.map .int)) (.list (ys.map .int)) = some (!decide (xs = ys)) := by
  unfold neD
  rw [shaped_ints, shaped_ints, if_pos (by rfl)]
  simp only [PyData.eqv, eqvAll_ints]
theorem neD_tints (xs ys : List Int) : neD (.tuple (xs.map .int)) (.tuple (ys.map .int)) = some (!decide (xs = ys)) := by
  unfold neD
  rw [shaped_tints, shaped_tints, if_pos (by rfl)]
  simp only [PyData.eqv, eqvAll_ints]
theorem shaped_int (i : Int) : SeqAt.shaped (.int i) = true := by simp [SeqAt.shaped, PyData.canLay0, PyData.depth]
theorem shaped_none : SeqAt.shaped .none = true := by simp [SeqAt.shaped, PyData.canLay0, PyData.depth]
theorem shaped_bool (b : Bool) : SeqAt.shaped (.bool b) = true := by simp [SeqAt.shaped, PyData.canLay0, PyData.depth]
theorem shaped_nil : SeqAt.shaped (.list []) = true := shaped_ints []
theorem shaped_tnil : SeqAt.shaped (.tuple []) = true := shaped_tints []
theorem eqD_int (i j : Int) : eqD (.int i) (.int j) = some (decide (i = j)) := by
  unfold eqD
  rw [shaped_int, shaped_int, if_pos (by rfl)]
  simp only [PyData.eqv]
  congr 1
theorem neD_int (i j : Int) : neD (.int i) (.int j) = some (!decide (i = j)) := by
  unfold neD
  rw [shaped_int, shaped_int, if_pos (by rfl)]
  simp only [PyData.eqv]
  congr 1
theorem neD_nil (xs : List Int) : neD (.list (xs.map .int)) (.list []) = some (!decide (xs = [])) := neD_ints xs []
theorem eqD_nil (xs : List Int) : eqD (.list (xs.map .int)) (.list []) = some (decide (xs = [])) := eqD_ints xs []
/-- None or a number -/
def optD : Option Int → D
  | none => .none
  | some i => .int i
theorem shaped_opt (o : Option Int) : SeqAt.shaped (optD o) = true := by
  cases o
  · exact shaped_none
  · exact shaped_int _
theorem neD_opt (a b : Option Int) : neD (optD a) (optD b) = some (!decide (a = b)) := by
  unfold neD
  rw [shaped_opt, shaped_opt, if_pos (by rfl)]
  cases a <;> cases b <;> simp [optD, PyData.eqv]
  congr 1
theorem eqD_opt (a b : Option Int) : eqD (optD a) (optD b) = some (decide (a = b)) := by
  unfold eqD
  rw [shaped_opt, shaped_opt, if_pos (by rfl)]
  cases a <;> cases b <;> simp [optD, PyData.eqv]
  congr 1
/-- a comprehension whose turns are known -/
theorem lcL_map {α : Type} {b : D → Rho → Option Rho} {t : Rho → R Bool} {f : Rho → R D} {ρ : Rho} (d : α → D) (β : α → Rho) (T : α → Bool) (F : α → D) :
    ∀ xs : List α, (∀ x ∈ xs, b (d x) ρ = some (β x) ∧ t (β x) = .ok (T x) ∧ (T x = true → f (β x) = .ok (F x))) → lcL b t f ρ (xs.map d) = some ((xs.filter T).map F)
  | [], _ => rfl
  | x :: xs, h => by
    obtain ⟨h1, h2, h3⟩ := h x (by simp)
    have ih := lcL_map d β T F xs fun y hy => h y (by simp [hy])
    rw [List.map_cons]
    unfold lcL
    rw [h1]
    dsimp only
    rw [h2]
    cases hT : T x with
    | true => simp [h3 hT, ih, hT]
    | false => simp [ih, hT]
theorem rng_map (lo : Int) (n : Nat) : rng lo n = ((List.range n).map fun (i : Nat) => lo + (i : Int)).map .int := by
  unfold rng
  rw [List.map_map]
  rfl
theorem rgv_map (a b : Int) : rgv a b = ((List.range (b - a).toNat).map fun (i : Nat) => a + (i : Int)).map .int := by
  unfold rgv
  rw [List.map_map]
  rfl
end M
namespace M
section
variable {b : D → Rho → Option Rho} {body : Rho → Out} {x : D} {xs : List D} {ρ ρ1 ρ2 : Rho}
theorem forL_nx (h1 : b x ρ = some ρ1) (h2 : body ρ1 = .nx ρ2) : forL b body (x :: xs) ρ = forL b body xs ρ2 := by
  rw [forL, h1]
  dsimp only
  rw [h2]
theorem forL_ct (h1 : b x ρ = some ρ1) (h2 : body ρ1 = .ct ρ2) : forL b body (x :: xs) ρ = forL b body xs ρ2 := by
  rw [forL, h1]
  dsimp only
  rw [h2]
theorem forL_bk (h1 : b x ρ = some ρ1) (h2 : body ρ1 = .bk ρ2) : forL b body (x :: xs) ρ = .nx ρ2 := by
  rw [forL, h1]
  dsimp only
  rw [h2]
theorem forL_rt {d : D} (h1 : b x ρ = some ρ1) (h2 : body ρ1 = .rt d) : forL b body (x :: xs) ρ = .rt d := by
  rw [forL, h1]
  dsimp only
  rw [h2]
theorem forL_nil : forL b body [] ρ = .nx ρ := rfl
end
/-- a loop by an invariant: st i is the state ahead of turn i -/
theorem forL_inv {b : D → Rho → Option Rho} {body : Rho → Out} {xs : List D} (st : Nat → Rho → Prop) (hs : ∀ (i : Nat) (x : D) (ρ : Rho), xs[i]? = some x → st i ρ → ∃ ρ1 ρ2, b x ρ = some ρ1 ∧ body ρ1 = .nx ρ2 ∧ st (i + 1) ρ2) :
    ∀ ρ, st 0 ρ → ∃ ρ', forL b body xs ρ = .nx ρ' ∧ st xs.length ρ' := by
  induction xs generalizing st with
  | nil => exact fun ρ h => ⟨ρ, rfl, h⟩
  | cons x xs ih =>
    intro ρ h
    obtain ⟨ρ1, ρ2, h1, h2, h3⟩ := hs 0 x ρ rfl h
    obtain ⟨ρ', e, h4⟩ := ih (fun i => st (i + 1)) (fun i y ρ hy hst => hs (i + 1) y ρ (by simpa using hy) hst) ρ2 h3
    exact ⟨ρ', by rw [forL_nx h1 h2]; exact e, h4⟩
end M
namespace M
theorem lcL_all {α : Type} {b : D → Rho → Option Rho} {f : Rho → R D} {ρ : Rho} (d : α → D) (β : α → Rho) (F : α → D) (xs : List α)
    (h : ∀ x ∈ xs, b (d x) ρ = some (β x) ∧ f (β x) = .ok (F x)) : lcL b yes f ρ (xs.map d) = some (xs.map F) := by
  rw [lcL_map d β (fun _ => true) F xs fun x hx => ⟨(h x hx).1, rfl, fun _ => (h x hx).2⟩, List.filter_eq_self.mpr fun _ _ => rfl]
end M
namespace M
theorem seq_nx {f g : Rho → Out} {ρ ρ' : Rho} (h : f ρ = .nx ρ') : sSeq f g ρ = g ρ' := by unfold sSeq; rw [h]
theorem seq_rt {f g : Rho → Out} {ρ : Rho} {d : D} (h : f ρ = .rt d) : sSeq f g ρ = .rt d := by unfold sSeq; rw [h]
theorem seq_rf {f g : Rho → Out} {ρ : Rho} {d : List D} (h : f ρ = .rf d) : sSeq f g ρ = .rf d := by unfold sSeq; rw [h]
theorem seq_if_true {t : Rho → R Bool} {f g h : Rho → Out} {ρ : Rho} {o : Out} (e : t ρ = .ok true) (e' : f ρ = o) (ho : sSeq (fun _ => o) h ρ = o) : sSeq (sIf t f g) h ρ = o := by
  unfold sSeq sIf at *
  rw [e]
  show (match f ρ with | _ => _) = _
  rw [e']
  exact ho
theorem fn_rt {ar n : Nat} {body : Rho → Out} {ds : List D} {x : D} (hl : ds.length = ar) (h : body (ds.map .d ++ List.replicate (n - ds.length) .no) = .rt x) : fnM0 ar n body ds = .rt x := by
  unfold fnM0 fnM
  rw [if_pos hl, h]
theorem fn_rf {ar n : Nat} {body : Rho → Out} {ds : List D} {x : List D} (hl : ds.length = ar) (h : body (ds.map .d ++ List.replicate (n - ds.length) .no) = .rf x) : fnM0 ar n body ds = .rf x := by
  unfold fnM0 fnM
  rw [if_pos hl, h]
theorem fn_nx {ar n : Nat} {body : Rho → Out} {ds : List D} {ρ : Rho} (hl : ds.length = ar) (h : body (ds.map .d ++ List.replicate (n - ds.length) .no) = .nx ρ) : fnM0 ar n body ds = .rt .none := by
  unfold fnM0 fnM
  rw [if_pos hl, h]
/-- a script's draws -/
structure Dr (P : Int → Int → Int) : Prop where
  lo : ∀ k m : Int, 0 < m → 0 ≤ P k m
  hi : ∀ k m : Int, 0 < m → P k m < m
theorem dr_pick (ns : List Int) : Dr (pick ns) := ⟨fun _ _ h => pick_lo h, fun _ _ h => pick_hi h⟩
end M
namespace M
theorem lenD_list (xs : List D) : lenD [.list xs] = some (.int xs.length) := rfl
theorem lenD_tuple (xs : List D) : lenD [.tuple xs] = some (.int xs.length) := rfl
end M

namespace Mset
open PySem PySem.Spec PyProof.Rows L2
/-! ### set(xs) of a list of ints -/
abbrev nset (w : World) : Obj := { cls := .type "set", dict := none, data := .set #[] 0 (.fresh 0 0 (!w.params.followText "set-order")) }
section
variable {P : Program} {w : World} {A : Around} {E : Value → Shared → Prop} {s : Shared}
/-- behind set.__init__ of a list -/
def Behind (w : World) (s : Shared) (ns : List Int) (r : Value) (t : Shared) : Prop := r = .none ∧ ∃ h' tk c, t = { s with heap := h', toks := tk } ∧ SetR w h' s.heap.objs.size (fun j => decide (j ∈ ns)) c ∧ c ≤ ns.length ∧ ∀ b o, s.heap.get? b = some o → h'.get? b = some o
theorem at_int {its : Array Value} {ns : List Int} (hi : IntsAre its.toList ns) (hz : its.size = ns.length) (i : Nat) (v : Value) (hv : its[i]? = some v) : ∃ k t, ns[i]? = some k ∧ v = .int k t := by
  have hl : i < ns.length := hz ▸ (Array.getElem?_eq_some_iff.mp hv).1
  obtain ⟨t, e⟩ := IntsAre.int_at hi i v ((Array.getElem?_toList ..).trans hv)
  exact ⟨ns[i], t, List.getElem?_eq_getElem hl, by rw [e, List.getD_eq_getElem?_getD, List.getElem?_eq_getElem hl] <;> rfl⟩
set_option maxRecDepth 100000 in
set_option maxHeartbeats 3200000 in
theorem of_list {l : Addr} {its : Array Value} (ns : List Int) {Q : Value → Shared → Prop} (hd : A.handled = none) (pl : s.heap.IsList l its) (hi : IntsAre its.toList ns) (hb : ns.length + 1 < scanBound)
    (k : ∀ (h' : Heap) (tk c : Nat), SetR w h' s.heap.objs.size (fun j => decide (j ∈ ns)) c → c ≤ ns.length → (∀ b o, s.heap.get? b = some o → h'.get? b = some o) → Q (.ref s.heap.objs.size) { s with heap := h', toks := tk }) :
    wpAny (model P w) A (call (.type "set") [.ref l]) Q E s := by
  have hz : its.size = ns.length := by have := IntsAre.length hi; rwa [Array.length_toList] at this
  obtain ⟨_, _, hmro⟩ := F.called_set.mro
  have i1 := F.called_set.made; have i2 := F.called_set.sub
  refine wpAny_call (codeAny_of_tree (?_ : wpAny _ _ (callAny (.type "set") _) _ _ _))
  refine wpAny_pure ⟨Code.quiet_builtin _ (by decide +kernel), codeAny_builtin F.entry_type_call ?_⟩
  rw [Around.under_plain (weight_type_call_type "set" [.ref l] []) rfl]
  have i3 := F.called_set.notType; have i4 := F.called_set.canCreate; have i5 := F.typeCall_set_1 (.ref l)
  repeat (any_goals (first | assumption | wp_step))
  refine codeAny_mono (code_set_led1 (.ref l) (E := E) (Q₁ := fun obj t => obj = .ref s.heap.objs.size ∧ t = { s with heap := s.heap.push (nset w) }) ⟨rfl, rfl⟩) fun r t ht => ?_
  match r, ht with
  | .error _, ht => exact ht
  | .ok .next, ht => exact ht.elim
  | .ok .brk, ht => exact ht.elim
  | .ok .cont, ht => exact ht.elim
  | .ok (.ret _), ⟨e1, e2⟩ =>
    subst e1 e2
    have hS : (s.heap.push (nset w)).get? s.heap.objs.size = some (nset w) := Heap.get?_push_size _ rfl
    have hT : Shared.TypeIs { s with heap := s.heap.push (nset w) } (.ref s.heap.objs.size) "set" := ⟨_, hS, rfl⟩
    have j1 := F.called_set.init.lookup; have j2 := F.called_set.init.bind (.ref s.heap.objs.size)
    repeat (any_goals (first | assumption | wp_step))
    refine codeAny_mono (codeAny_call_builtin (R := wants (Behind w s ns) E) F.called_set.init.plain F.entry_set_init (check_set_init_1 hT ?_)) fun r₂ t₂ h₂ => ?_
    · obtain ⟨⟨oc, od, odt, osl⟩, ho, hc, n, hdt⟩ := pl
      dsimp only at hc hdt
      subst hc hdt
      have ho' : (s.heap.push (nset w)).get? l = some { cls := .type "list", dict := od, data := .seq its n, slots := osl } := Heap.get?_push_of_some _ ho
      have m1 := F.sub_list_set; have m2 := F.sub_list_frozenset
      have m3 : (Value.type "list" == Value.type "dict") = false := by decide
      have pl' : (s.heap.push (nset w)).IsList l its := ⟨_, ho', rfl, n, rfl⟩
      unfold Builtin.«set.__init__» noKeywords Builtin.Frozenset.updateFrom
      generalize hPI : pyIter = PI
      wp_walk
      subst hPI
      refine wpAny_pyIter_list pl' (wpAny_bind (wpAny_runValue ?_))
      have lt : l < s.heap.objs.size := Heap.lt_size ho
      have ne : l ≠ (s.heap.push (nset w)).objs.size := (Heap.size_push s.heap (nset w)) ▸ Nat.ne_of_lt (Nat.lt_succ_of_lt lt)
      have nf : s.heap.objs.size ∉ [(s.heap.push (nset w)).objs.size, l] := by
        rw [Heap.size_push, List.mem_cons, List.mem_singleton]
        exact fun z => z.elim (Nat.ne_of_lt (Nat.lt_succ_self _)) (Nat.ne_of_gt lt)
      refine set_update_ints ((Walks.list (show A.in1.in1.in1.handled = none by simp [hd]) _ l ne its).toS) s.heap.objs.size nf ns hz hb (at_int hi hz) (its.size - 0) 0 _ (by omega) (Nat.zero_le _) ⟨⟨_, Heap.get?_push_size _ rfl, rfl, rfl⟩, pl'.push _⟩
        ⟨0, Nat.le_refl 0, setR_new_at (Heap.get?_push_of_some _ hS)⟩ fun t' c' hm hc' hS' => ?_
      obtain ⟨h', g2, d', tk', os'⟩ := t'
      obtain rfl : g2 = s.gens := hm.gens
      obtain rfl : d' = s.drawn := hm.drawn
      obtain rfl : os' = s.os := hm.os
      refine wpAny_pure (wpAny_pure ⟨rfl, h', tk', c', rfl, hS', hz ▸ hc', fun b o e => hm.heap b o ?_ (Heap.get?_push_of_some _ (Heap.get?_push_of_some _ e))⟩)
      have lb := Heap.lt_size e
      rw [List.mem_cons, List.mem_singleton, Heap.size_push]
      exact fun z => z.elim (Nat.ne_of_lt lb) (Nat.ne_of_lt (Nat.lt_succ_of_lt lb))
    · match r₂, h₂ with
      | .error _, h₂ => exact h₂
      | .ok .next, h₂ => exact h₂.elim
      | .ok .brk, h₂ => exact h₂.elim
      | .ok .cont, h₂ => exact h₂.elim
      | .ok (.ret _), ⟨e3, h', tk, c', e4, q1, q2, q3⟩ =>
        subst e3 e4
        repeat (any_goals (first | assumption | wp_step))
        exact k _ _ _ q1 q2 q3
end
end Mset
namespace Mset
open PySem PySem.Spec PyProof.Rows L2
def uniq : List Int → List Int
  | [] => []
  | x :: r => if x ∈ r then uniq r else x :: uniq r
theorem mem_uniq {x : Int} : ∀ {l : List Int}, x ∈ uniq l ↔ x ∈ l
  | [] => Iff.rfl
  | y :: r => by
    unfold uniq
    split
    · rename_i h
      rw [mem_uniq, List.mem_cons]
      exact ⟨.inr, fun z => z.elim (fun e => e ▸ h) id⟩
    · rw [List.mem_cons, List.mem_cons, mem_uniq]
theorem uniq_nodup : ∀ l : List Int, (uniq l).Nodup
  | [] => .nil
  | y :: r => by
    unfold uniq
    split
    · exact uniq_nodup r
    · rename_i h
      exact List.nodup_cons.mpr ⟨fun z => h (mem_uniq.mp z), uniq_nodup r⟩
theorem uniq_len : ∀ l : List Int, (uniq l).length ≤ l.length
  | [] => Nat.le_refl _
  | y :: r => by
    unfold uniq
    have := uniq_len r
    split <;> simp <;> omega
/-- the ints that are read at an address: a list's or a tuple's -/
def IntsAt (K : PySem.W.Frag) (H : Hp) (l : Addr) (ns : List Int) : Prop := SqL K H l (ns.map V.int) ∨ SqT K H l (ns.map V.int)
section
variable {X : Cx} {pins : List (Addr × Obj)} {σ : L2.St} {H : Hp} {s : Shared}
theorem made {l : Addr} {ns : List Int} {Q : Value → Shared → Prop} {E : Value → Shared → Prop} (hc : X.calm = true) (I : Inv X pins σ H s) (h : IntsAt X.K H l ns) (hb : ns.length ≤ 4000)
    (k : ∀ (h' : Heap) (tk n : Nat), SetR X.w h' s.heap.objs.size (fun j => decide (j ∈ ns)) n → n ≤ ns.length → (∀ b o, s.heap.get? b = some o → h'.get? b = some o) → Q (.ref s.heap.objs.size) { s with heap := h', toks := tk }) :
    wpAny (model X.prog X.w) X.A (call (.type "set") [.ref l]) Q E s := by
  have hs : ns.length + 1 < scanBound := by unfold scanBound; omega
  rcases h with h | h
  · obtain ⟨its, r, pl, _⟩ := I.list h
    exact of_list ns (I.ok.hd hc) pl.isList (by simpa using r.ints) hs k
  · obtain ⟨its, r, pl, _⟩ := I.tuple h
    exact call_set_tupI ns (I.ok.hd hc) (show s.heap.IsTuple l its.toArray from pl) (by simpa using r.ints) hs k
variable {a : Expr} {ta : TE} {p p2 q pos : Pos}
def tSortSet (K : PySem.W.Frag) (ta : TE) : TE := fun σ H Q => ta σ H fun x H1 => ∃ l ns, x = .ref l ∧ IntsAt K H1 l ns ∧ ns.length < 64 ∧ ∀ (ns' : List Int) (p : Addr), ns'.Pairwise (· < ·) → (∀ j : Int, j ∈ ns' ↔ j ∈ ns) → H1 p = none → Q (.ref p) (upd H1 p (.lst (ns'.map V.int)))
theorem pe_sortSet (hc : X.calm = true) (hg : Gl X "sorted") (hm : X.mg "sorted" = none) (hv : bootBuiltins "sorted" = some (.builtin "sorted")) (hg2 : Gl X "set") (hm2 : X.mg "set" = none) (ha : PE X a ta)
    (na : starEach [a] X.env = (false, eval a X.env) :: starEach [] X.env := by rfl) : PE X (.Call (.Name "sorted" p) [.Call (.Name "set" p2) [a] [] q] [] pos) (tSortSet X.K ta) := by
  refine ⟨fun pins s σ H Q I h => Call_ (ld_blt I hg hm hv (PyProof.Rows.callWith_builtin1 (PyProof.Rows.args_cons ?_ rfl) rfl rfl))⟩
  refine Call_ (ld_blt I hg2 hm2 boot_set (PyProof.Rows.callWith_type1 (PyProof.Rows.args_cons (thn (ha.run pins s σ H _ I h) fun v s1 ⟨x, H1, I1, r1, q1⟩ => PyProof.Rows.args_nil ?_) na) na rfl))
  obtain ⟨l, ns, rfl, hi, hl, q1⟩ := q1
  cases r1
  refine made hc I1 hi (by omega) fun h' tk n R hn hk => PyProof.Rows.args_nil ?_
  have I2 : Inv X pins σ H1 { s1 with heap := h', toks := tk } := I1.kept hk
  refine sorted_set R (I2.ok.hd hc) (by omega) fun s' p out c ns' k g o hp hgt hint hs hmem hlen => ?_
  have hz : (ns'.map V.int).length ≤ sizeLine := by rw [List.length_map, hlen, sizeLine_eq]; omega
  have J : Inv X pins σ (upd H1 p (.lst (ns'.map V.int))) s' := I2.call' (ch := []) o (Un.laid k hp (I2.hok.fresh hp)) (I2.hok.laid k hp ⟨hz, out.toList, c, vals_of_ints hint, hgt⟩) (by rw [g]; exact I2.bare) (fun _ z => nomatch z)
  exact ⟨.ref p, _, J, rfl, q1 ns' p hs (fun j => by rw [hmem j, decide_eq_true_iff]) (I2.hok.fresh hp)⟩
def tLenSet (K : PySem.W.Frag) (ta : TE) : TE := fun σ H Q => ta σ H fun x H1 => ∃ l ns, x = .ref l ∧ IntsAt K H1 l ns ∧ ns.length ≤ 4000 ∧ Q (.int (uniq ns).length) H1
theorem pe_lenSet (hc : X.calm = true) (hg : Gl X "len") (hm : X.mg "len" = none) (hg2 : Gl X "set") (hm2 : X.mg "set" = none) (ha : PE X a ta)
    (na : starEach [a] X.env = (false, eval a X.env) :: starEach [] X.env := by rfl) : PE X (.Call (.Name "len" p) [.Call (.Name "set" p2) [a] [] q] [] pos) (tLenSet X.K ta) := by
  refine ⟨fun pins s σ H Q I h => Call_ (ld_blt I hg hm boot_len (PyProof.Rows.callWith_builtin1 (PyProof.Rows.args_cons ?_ rfl) rfl rfl))⟩
  refine Call_ (ld_blt I hg2 hm2 boot_set (PyProof.Rows.callWith_type1 (PyProof.Rows.args_cons (thn (ha.run pins s σ H _ I h) fun v s1 ⟨x, H1, I1, r1, q1⟩ => PyProof.Rows.args_nil ?_) na) na rfl))
  obtain ⟨l, ns, rfl, hi, hl, q1⟩ := q1
  cases r1
  refine made hc I1 hi hl fun h' tk n R hn hk => PyProof.Rows.args_nil ?_
  have I2 : Inv X pins σ H1 { s1 with heap := h', toks := tk } := I1.kept hk
  obtain ⟨o, es, ep, t, ho, hex, hdt, g, nd, hmem, hb, hf, hsz, hr, hl2⟩ := R
  have hcount : n = (uniq ns).length := by
    have pm : (es.toList.map keyOf).Perm (uniq ns) := (List.perm_ext_iff_of_nodup nd (uniq_nodup ns)).mpr fun j => by
      rw [← hmem j, mem_uniq, decide_eq_true_iff]
    rw [← pm.length_eq, List.length_map, Array.length_toList]
    exact hsz.symm
  refine call_len_set ho hex hdt hf (by rw [hsz]; omega) ⟨.int (uniq ns).length, H1, I2.tok _, ⟨_, by rw [hsz, hcount]⟩, q1⟩
end
end Mset
namespace M
open PySem PySem.Spec PyProof.Rows L2
def itemsInt : D → Option (List Int)
  | .list xs => intsOf xs
  | .tuple xs => intsOf xs
  | _ => none
def sortSetD : D → Option D := fun d => match itemsInt d with
  | some is => if is.length < 64 then some (.list ((sortI (Mset.uniq is)).map .int)) else none
  | none => none
def lenSetD : D → Option D := fun d => match itemsInt d with
  | some is => if is.length ≤ 4000 then some (.int (Mset.uniq is).length) else none
  | none => none
theorem ints_at {K : PySem.W.Frag} {ns : Sc} {G H : Hp} {v : V} {d : D} {is : List Int} (s : Sub G H) (b : B K ns G H v d) (e : itemsInt d = some is) : ∃ l, v = .ref l ∧ Mset.IntsAt K H l is := by
  unfold itemsInt at e
  split at e
  · obtain rfl := ints_eq e
    obtain ⟨a, us, rfl, h1, q1⟩ := b.list s
    obtain rfl := q1.ints_inv
    exact ⟨a, rfl, .inl (SqL.of h1)⟩
  · obtain rfl := ints_eq e
    obtain ⟨a, us, rfl, h1, q1, _⟩ := b.tuple s
    obtain rfl := q1.ints_inv
    exact ⟨a, rfl, .inr h1⟩
  · cases e
theorem lt_le {l : List Int} (h : l.Pairwise (· < ·)) : l.Pairwise (· ≤ ·) := h.imp fun h => Int.le_of_lt h
theorem sortI_mem {x : Int} {l : List Int} : x ∈ sortI l ↔ x ∈ l := (sortI_perm l).mem_iff
theorem lt_nodup {l : List Int} (h : l.Pairwise (· < ·)) : l.Nodup := h.imp fun h => Int.ne_of_lt h
section
variable {X : Cx} {c : Cm} {W : WM} {a : Expr} {f : Rho → R D} {p p2 q pos : Pos}
theorem me_sortSet (hc : X.calm = true) (hg : Gl X "sorted") (hm : X.mg "sorted" = none) (hg2 : Gl X "set") (hm2 : X.mg "set" = none) (ha : MB X c W a f) (na : starEach [a] X.env = (false, eval a X.env) :: starEach [] X.env := by rfl) :
    ME X c W (.Call (.Name "sorted" p) [.Call (.Name "set" p2) [a] [] q] [] pos) (e1 sortSetD f) :=
  PE.imp (Mset.pe_sortSet hc hg hm bt_sorted hg2 hm2 ha na) fun σ H Qk ⟨G, ρ, ok, p⟩ => step ok p fun x G1 H1 v _ g1 r1 ok1 p1 => by
    unfold sortSetD at p1
    cases e : itemsInt x with
    | none => rw [e] at p1; exact p1.elim
    | some is =>
      rw [e] at p1
      dsimp only at p1
      by_cases hl : is.length < 64
      · rw [if_pos hl] at p1
        obtain ⟨l, rfl, hi⟩ := ints_at ok1.s r1 e
        refine ⟨l, is, rfl, hi, hl, fun ns' p hs hmem hp => ?_⟩
        have pm : ns'.Perm (sortI (Mset.uniq is)) := (List.perm_ext_iff_of_nodup (lt_nodup hs) ((sortI_perm _).nodup_iff.mpr (Mset.uniq_nodup is))).mpr fun j => by
          rw [hmem j, sortI_mem, Mset.mem_uniq]
        rw [sorted_uniq pm (lt_le hs) (sortI_sorted _)]
        exact newL ok1.s QA.ints rfl p1 p hp
      · rw [if_neg hl] at p1; exact p1.elim
theorem me_lenSet (hc : X.calm = true) (hg : Gl X "len") (hm : X.mg "len" = none) (hg2 : Gl X "set") (hm2 : X.mg "set" = none) (ha : MB X c W a f) (na : starEach [a] X.env = (false, eval a X.env) :: starEach [] X.env := by rfl) :
    ME X c W (.Call (.Name "len" p) [.Call (.Name "set" p2) [a] [] q] [] pos) (e1 lenSetD f) :=
  PE.imp (Mset.pe_lenSet hc hg hm hg2 hm2 ha na) fun σ H Qk ⟨G, ρ, ok, p⟩ => step ok p fun x G1 H1 v _ g1 r1 ok1 p1 => by
    unfold lenSetD at p1
    cases e : itemsInt x with
    | none => rw [e] at p1; exact p1.elim
    | some is =>
      rw [e] at p1
      dsimp only at p1
      by_cases hl : is.length ≤ 4000
      · rw [if_pos hl] at p1
        obtain ⟨l, rfl, hi⟩ := ints_at ok1.s r1 e
        exact ⟨l, is, rfl, hi, hl, p1 G1 H1 _ (Gr.refl ok1.s) (.int _)⟩
      · rw [if_neg hl] at p1; exact p1.elim
end
end M

namespace M
open PySem PySem.Spec PyProof.Rows L2
/-! ### enumerate(xs), a list -/
def enumD (xs : List D) : List D := xs.mapIdx fun i x => .tuple [.int (i : Nat), x]
theorem enum_get {xs : List D} {i : Nat} {d : D} (h : (enumD xs)[i]? = some d) : ∃ x, xs[i]? = some x ∧ d = .tuple [.int (i : Nat), x] := by
  unfold enumD at h
  rw [List.getElem?_mapIdx] at h
  cases e : xs[i]? with
  | none => rw [e] at h; cases h
  | some x =>
    rw [e] at h
    cases h
    exact ⟨x, rfl, rfl⟩
theorem it_enumL {K : PySem.W.Frag} {ns : Sc} {a : Addr} {us : List V} {xs : List D} : ItOk K ns (Ite K a) (fun G => G a = some (.lst us) ∧ QA K ns G us xs) (enumD xs) where
  mono := fun G G' s p => ⟨s _ _ p.1, QA.mono s _ _ p.2⟩
  go := fun G H i d p s e => by
    obtain ⟨x, e1, rfl⟩ := enum_get e
    obtain ⟨v, ev, q⟩ := p.2.get e1
    exact ⟨us, v, SqL.of (s _ _ p.1).1, ev⟩
  yld := fun G H i d x H' p s e y => by
    obtain ⟨T, v', rfl, hT, rfl, h1⟩ := y
    obtain ⟨x, e1, rfl⟩ := enum_get e
    obtain ⟨v, ev, q⟩ := p.2.get e1
    have z1 := h1 us (SqL.of (s _ _ p.1).1)
    rw [ev] at z1
    cases z1
    exact pair_new s hT (.int _) q
  stop := fun G H p s => ⟨us, SqL.of (s _ _ p.1).1, by rw [p.2.length]; simp [enumD]⟩
def enE (f : Rho → R D) : Rho → R (List D) := fun ρ => (f ρ).bind fun d => match d with
  | .list xs => .ok (enumD xs)
  | _ => .bad
section
variable {X : Cx} {c : Cm} {W : WM}
theorem mi_enum {a : Expr} {f : Rho → R D} {p pos tpos : Pos} {elts : List Expr} {kk : Nat} (hg : Gl X "enumerate") (hm : X.mg "enumerate" = none) (ha : ME X c W a f) (hs1 : starEach [a] X.env = (false, eval a X.env) :: starEach [] X.env := by rfl) (hs : starEach [a] X.env = [(false, eval a X.env)] := by rfl) :
    MI X c W (.Tuple elts kk tpos) (.Call (.Name "enumerate" p) [a] [] pos) (enE f) := PI.imp (pi_enum hg hm (pa_cons ha pa_nil hs1) hs) fun σ H Rk ⟨G, ρ, ok, p⟩ => stepI ok p fun d G1 H1 v e1 g1 r1 ok1 p1 => by
  cases d with
  | list xs =>
    cases r1 with
    | lst h1 h2 => exact ⟨_, _, rfl, SqL.of (ok1.s _ _ h1).1, p1 G1 H1 _ _ (Gr.refl ok1.s) it_enumL ⟨h1, h2⟩⟩
  | _ => exact p1.elim
/-! ### x or y, by truth -/
def truD : D → Option Bool
  | .none => some false
  | .bool b => some b
  | .int i => some (i != 0)
  | .list xs => some (!xs.isEmpty)
  | .tuple xs => some (!xs.isEmpty)
  | _ => none
theorem tru_of {K : PySem.W.Frag} {ns : Sc} {G H : Hp} {v : V} {d : D} {k : Bool} (s : Sub G H) (b : B K ns G H v d) (e : truD d = some k) : TruV K v H k := by
  cases d with
  | none => obtain rfl := b.none; cases e; rfl
  | bool x => obtain rfl := b.bool; cases e; rfl
  | int i => obtain rfl := b.int; cases e; rfl
  | list xs =>
    obtain ⟨a, us, rfl, h1, q⟩ := b.list s
    cases e
    refine .inl ⟨us, SqL.of h1, ?_⟩
    cases q <;> rfl
  | tuple xs =>
    obtain ⟨a, us, rfl, h1, q, _⟩ := b.tuple s
    cases e
    refine .inr (.inl ⟨us, h1, ?_⟩)
    cases q <;> rfl
  | _ => cases e
def orE (f g : Rho → R D) : Rho → R D := fun ρ => (f ρ).bind fun x => (R.of (truD x)).bind fun b => if b then .ok x else g ρ
theorem me_orT {a b : Expr} {rest : List Expr} {pos : Pos} {f g : Rho → R D} (ha : ME X c W a f) (hb : ME X c W (.BoolOp .Or (b :: rest) pos) g) : ME X c W (.BoolOp .Or (a :: b :: rest) pos) (orE f g) :=
  PE.imp (pe_orT ha hb) fun σ H Qk ⟨G, ρ, ok, p⟩ => step ok p fun x G1 H1 v _ g1 r1 ok1 p1 => by
    cases e : truD x with
    | none => rw [e] at p1; exact p1.elim
    | some k =>
      rw [e] at p1
      refine ⟨k, tru_of ok1.s (.inl r1) e, ?_⟩
      cases k with
      | true => exact p1 G1 H1 v (Gr.refl ok1.s) r1
      | false => exact post_same ok1 p1
end
end M

/-! the library's walks (WalksT) as turns of a loop -/
namespace IW
open PySem PySem.Spec PyProof.Rows L2
/-- cells that are new may turn -/
theorem new_fp {X : Cx} {pins : List (Addr × Obj)} {σ : L2.St} {H : Hp} {s : Shared} {fp : List Addr} (I : Inv X pins σ H s) (h : ∀ b ∈ fp, s.heap.objs.size ≤ b) : ∀ b ∈ fp, FpOk X pins H b :=
  fun b hb => I.fpOk (h b hb) (I.hok.fresh (h b hb))
/-- who hands out a new tuple at each turn, and walks: J is what is told of it -/
theorem turn {P : Program} {w : World} {K : PySem.W.Frag} {elts : List Expr} {kk : Nat} {tpos : Pos} {J : It} {fp : List Addr} {it : Addr} {tn : Nat → Heap → Prop} (mem : it ∈ fp)
    (obj : ∀ i h, tn i h → ∀ b ∈ fp, ∃ o, h.get? b = some o ∧ ∀ v, o.data ≠ .cell v)
    (keep : ∀ i h h', tn i h → (∀ b ∈ fp, ∀ o, h.get? b = some o → h'.get? b = some o) → tn i h')
    (self : ∀ (A : Around) (i : Nat) (s : Shared) (Q : Value → Shared → Prop) (E : Value → Shared → Prop), tn i s.heap → Q (.ref it) s → wpAny (model P w) A (pyIter (.ref it)) Q E s)
    (walk : ∀ (X : Cx), X.prog = P → X.w = w → X.K = K → X.calm = true → ∀ (i : Nat) (pins : List (Addr × Obj)) (s : Shared) (σ : L2.St) (H : Hp), Inv X pins σ H s → tn i s.heap → (J.go i H ∨ J.stop i H) →
      ∃ (fw wr : List Addr) (n : Nat) (Pt : Nat → Array Value → Prop) (St : Nat → Heap → Prop) (Mid : Nat → Addr → Heap → Prop), WalksT P w X.A it fw wr n Pt St Mid ∧ (∀ b ∈ wr, b ∈ fp) ∧ St i s.heap ∧
        (∀ h, St (i + 1) h → tn (i + 1) h) ∧ (J.go i H → i < n) ∧ (J.stop i H → i = n) ∧
        (J.go i H → ∀ vals, Pt i vals → ∃ vs : List V, vs.length ≤ sizeLine ∧ Vals vs vals.toList ∧ ∀ T, H T = none → J.yld i H (.ref T) (upd H T (.tup vs)))) :
    Turn P w K (.Tuple elts kk tpos) J fp it tn := by
  refine ⟨mem, obj, keep, fun X hP hw hK hc i pins s σ H E I hf st go => ?_, fun X hP hw hK hc i pins s σ H E I hf st en => ?_, self⟩
  · obtain ⟨fw, wr, n, Pt, St, Mid, W, sub, at0, nxt, lt, _, say⟩ := walk X hP hw hK hc i pins s σ H I st (.inl go)
    refine W.item i s _ E (lt go) at0 fun T vals h1 tk hv hT tup mid far => ⟨.ref T, rfl, W.go elts kk tpos i T _ _ E mid fun h2 at2 far2 => ?_⟩
    obtain ⟨vs, len, rv, y⟩ := say go vals hv
    obtain ⟨oT, eT, cT⟩ := tup
    have known : ObjOk X.prog X.w (upd H T (.tup vs)) h2 T (.tup vs) := ⟨len, vals.toList, rv, oT, far2 T oT (W.apart i T h1 mid) eT, cT⟩
    have all : ∀ b o, b ∉ fp → s.heap.get? b = some o → h2.get? b = some o := fun b o out e => far2 b o (fun z => out (sub b z)) (far b o (fun z => out (sub b z)) e)
    refine ⟨.ref T, upd H T (.tup vs), I.turnedNew (t' := tk) all hf hT known, rfl, y T (I.hok.fresh hT), nxt h2 at2, fun b hb => ?_⟩
    obtain ⟨o, e, _⟩ := obj i s.heap st b hb
    have old : b ≠ T := Nat.ne_of_lt (Nat.lt_of_lt_of_le (Heap.lt_size e) hT)
    exact (upd_ne old).trans (hf b hb).1
  · obtain ⟨fw, wr, n, Pt, St, Mid, W, sub, at0, _, _, eq, _⟩ := walk X hP hw hK hc i pins s σ H I st (.inr en)
    exact W.done s _ E (eq en ▸ at0) fun h' tk far => ⟨rfl, I.turnedL (t' := tk) (fun b o out e => far b o (fun z => out (sub b z)) e) hf⟩
/-- an iterator as it draws from place m on, at its end or behind it, too -/
theorem draws_from {prog : Program} {w : World} {A : Around} {it : Addr} {fp : List Addr} {n m : Nat} {P : Nat → Value → Prop} {St : Nat → Heap → Prop} (D : Draws prog w A it fp n P St)
    (en : ∀ (j : Nat) (s : Shared) (Q : Value → Shared → Prop) (E : Value → Shared → Prop), n ≤ j → St j s.heap → (∀ h' e, Heap.ExtBut it s.heap h' → (∃ o, h'.get? e = some o ∧ o.cls = .type "StopIteration") → E (.ref e) { s with heap := h' }) → wpAny (model prog w) A (Builtin.SmallTypes.nextOf (.ref it)) Q E s) :
    Draws prog w A it fp (max n m) P (fun j h => St j h ∧ (m ≤ n ∨ j = m)) := by
  refine ⟨fun j h st => D.live j h st.1, fun j h h' st k => ⟨D.frame j h h' st.1 k, st.2⟩, fun j s Q E lt st hQ => ?_, fun s Q E st hE => en _ s Q E (Nat.le_max_left ..) st.1 hE⟩
  exact D.item j s Q E (by have := st.2; omega) st.1 fun x h' tk px st' => hQ x h' tk px ⟨st', by have := st.2; omega⟩
theorem draws_tup {prog : Program} {w : World} {A : Around} (hh : A.handled = none) {it l : Addr} (hne : l ≠ it) (items : Array Value) (m : Nat) :
    Draws prog w A it [it, l] (max items.size m) (fun j v => items[j]? = some v) (fun j h => (h.IsTupleIter it l j ∧ h.IsTuple l items) ∧ (m ≤ items.size ∨ j = m)) :=
  draws_from (Draws.tuple hh it l hne items) fun j s Q E le st hE => PySem.wpAny_nextOf_tuple_end hh st.1 st.2 (Array.getElem?_eq_none le) hE
/-- enumerate(v) begins: its two new cells -/
theorem enum_new {v : Value} {o : Obj} {B : Heap → Prop} (b : Begins v o B) :
    Meets (Builtin.«enumerate.__new__» ⟨[.type "enumerate", v], []⟩) (fun _ R s => B s.heap ∧ R (.ok (.ret (.ref (s.heap.objs.size + 1))))
      { s with heap := (s.heap.push o).push { cls := .type "enumerate", data := .fields #[.none, .bool false, .ref s.heap.objs.size, rawInt 0, .none, .none] } }) :=
  .of_wp fun prog w A R s h => by
    have hsub := sub_enumerate
    obtain ⟨hp, g, d, tk, os⟩ := s
    rcases h with ⟨hb, h⟩
    rw [← Heap.size_push hp o] at h
    have come : ∀ {A' : Around} {E : Value → Shared → Prop} {Q : Value → Shared → Prop}, Q (.ref hp.objs.size) ⟨hp.push o, g, d, tk, os⟩ → wpAny (model prog w) A' (pyIter v) Q E ⟨hp, g, d, tk, os⟩ := fun q => b.iter prog w _ _ _ _ hb q
    wp_walk using come
    refine wpAny_stack_any fun st => wpAny_pure ?_
    split
    case h_1 =>
      rename_i c _ _ _ _ _
      rcases (c == Value.type "enumerate") <;> (wp_walk using come; exact ⟨_, rfl, h⟩)
    all_goals (wp_walk using come; exact ⟨_, rfl, h⟩)
theorem enum_call {prog : Program} {w : World} {A : Around} {E : Value → Shared → Prop} {s : Shared} {v : Value} {o : Obj} {B : Heap → Prop} {Q : Value → Shared → Prop} (b : Begins v o B) (hb : B s.heap)
    (h : ∀ h', IsEnum h' (s.heap.objs.size + 1) s.heap.objs.size 0 .none → h'.get? s.heap.objs.size = some o → (∀ c u, s.heap.get? c = some u → h'.get? c = some u) → Q (.ref (s.heap.objs.size + 1)) { s with heap := h' }) :
    wpAny (model prog w) A (call (.type "enumerate") [v]) Q E s := by
  have one := Heap.size_push s.heap o
  have en : IsEnum ((s.heap.push o).push { cls := .type "enumerate", data := .fields #[.none, .bool false, .ref s.heap.objs.size, rawInt 0, .none, .none] }) (s.heap.objs.size + 1) s.heap.objs.size 0 .none := one ▸ Heap.get?_push_size _ rfl
  exact callType_new F.called_enumerate (by decide) (F.typeCall_enumerate_1 v) (F.newCall_enumerate_1 v) (fun x => F.args_object_init_2 x v) F.entry_enumerate_new (enum_new b)
    ⟨hb, ⟨_, en, rfl⟩, h _ en (Heap.get?_push_of_some _ (Heap.get?_push_size _ b.free)) fun c u e => Heap.get?_push_of_some _ (Heap.get?_push_of_some _ e)⟩
end IW
namespace Men
open PySem PySem.Spec PyProof.Rows L2
/-- the tuple at a, each item in a new pair -/
def IteT (K : PySem.W.Frag) (a : Addr) : It :=
  ⟨fun i H => ∃ (xs : List V) (x : V), SqT K H a xs ∧ xs[i]? = some x, fun i H v H' => ∃ T x, v = .ref T ∧ H T = none ∧ H' = upd H T (.tup [.int (i : Nat), x]) ∧ ∀ xs, SqT K H a xs → xs[i]? = some x, fun i H => ∃ xs : List V, SqT K H a xs ∧ xs.length ≤ i⟩
theorem turn_enumT {P : Program} {w : World} {K : PySem.W.Frag} {elts : List Expr} {kk : Nat} {tpos : Pos} (a e it : Addr) (hai : a ≠ it) (hae : a ≠ e) :
    Turn P w K (.Tuple elts kk tpos) (IteT K a) [e, it] e (fun i h => (∃ old, IsEnum h e it ((i : Nat) : Int) old) ∧ h.IsTupleIter it a i ∧ e ≠ it) := by
  refine IW.turn (by simp) (fun i h st b hb => ?_) (fun i h h' st k => ?_) (fun A i s Q E st h => let ⟨⟨_, he⟩, _⟩ := st; wpAny_pyIter_enum he h) fun X hP hw hK hc i pins s σ H I st d => ?_
  · obtain ⟨⟨old, he⟩, ⟨o, ho, _, hd⟩, _⟩ := st
    simp only [List.mem_cons, List.not_mem_nil, or_false] at hb
    obtain rfl | rfl := hb
    · exact ⟨_, he, by simp⟩
    · exact ⟨o, ho, by simp [hd]⟩
  · obtain ⟨⟨old, he⟩, hi, ne⟩ := st
    exact ⟨⟨old, k e (by simp) _ he⟩, hi.at (k it (by simp)), ne⟩
  · subst hP hw hK
    obtain ⟨⟨old, he⟩, hi, ne⟩ := st
    obtain ⟨xs, hq⟩ : ∃ xs, SqT X.K H a xs := d.elim (fun ⟨xs, _, q, _⟩ => ⟨xs, q⟩) fun ⟨xs, q, _⟩ => ⟨xs, q⟩
    obtain ⟨its, rv, p, _⟩ := I.tuple hq
    have len := rv.length
    have same : ∀ {ys}, SqT X.K H a ys → ys = xs := fun q => I.tuple_inj q hq
    have D := IW.draws_tup (prog := X.prog) (w := X.w) (A := X.A.in1) (I.ok.hd hc) hai its.toArray i
    refine ⟨_, _, _, _, _, _, WalksT.enumFrom 0 D e ne (by simp [ne, hae.symm]) (by simp), by simp, ⟨⟨old, by rw [Int.zero_add]; exact he⟩, ⟨hi, p⟩, by omega⟩, fun h z => ?_, fun ⟨ys, y, q, ey⟩ => ?_, fun ⟨ys, q, le⟩ => ?_, fun ⟨ys, y, q, ey⟩ vals hv => ?_⟩
    · obtain ⟨⟨o2, z1⟩, z2, _⟩ := z
      exact ⟨⟨o2, by rw [Int.zero_add] at z1; exact z1⟩, z2.1, ne⟩
    · rw [same q] at ey
      have := (List.getElem?_eq_some_iff.mp ey).1
      simp only [List.size_toArray]
      omega
    · rw [same q] at le
      simp only [List.size_toArray]
      omega
    · rw [same q] at ey
      obtain ⟨u, eu, ru⟩ := rv.get ey
      obtain ⟨t, x, ex, rfl⟩ := hv
      rw [List.getElem?_toArray, eu] at ex
      cases ex
      refine ⟨[.int (i : Nat), y], by show 2 ≤ sizeLine; decide, .cons ⟨t, by rw [Int.zero_add]⟩ (.cons ru .nil), fun T hT => ⟨T, y, rfl, hT, rfl, fun zs qz => ?_⟩⟩
      rw [same qz]
      exact ey
def iEnumA (K : PySem.W.Frag) (ta : TA) : TI := fun σ H R => ta σ H fun vs H1 => ∃ a xs, vs = [.ref a] ∧ ((SqL K H1 a xs ∧ R (Ite K a) H1) ∨ (SqT K H1 a xs ∧ R (IteT K a) H1))
theorem pi_enumA {X : Cx} {e : Expr} {ta : TA} {p pos tpos : Pos} {elts : List Expr} {kk : Nat} (hg : Gl X "enumerate") (hm : X.mg "enumerate" = none) (ha : PA X [e] ta) (hs : starEach [e] X.env = [(false, eval e X.env)] := by rfl) :
    PI X (.Tuple elts kk tpos) (.Call (.Name "enumerate" p) [e] [] pos) (iEnumA X.K ta) := by
  constructor
  intro pins s σ H R I h
  refine Call_ (ld_blt I hg hm boot_enumerate (PyProof.Rows.callWith_type1 (thn (ha.run pos pins s σ H _ I h) fun us s1 r => ?_) hs rfl))
  obtain ⟨_, H1, J, rel, a, xs, rfl, d⟩ := r
  have hus : us = [.ref a] := by cases rel with | cons r0 r1 => cases r0; cases r1; rfl
  subst hus
  have come : ∀ {h' : Heap} {It : It} {tn : Nat → Heap → Prop}, IsEnum h' (s1.heap.objs.size + 1) s1.heap.objs.size 0 .none → (∀ b u, s1.heap.get? b = some u → h'.get? b = some u) →
      Turn X.prog X.w X.K (.Tuple elts kk tpos) It [s1.heap.objs.size + 1, s1.heap.objs.size] (s1.heap.objs.size + 1) tn → tn 0 h' → R It H1 →
      wpAny (model X.prog X.w) X.A (pyIter (.ref (s1.heap.objs.size + 1))) (PIE X pins σ (.Tuple elts kk tpos) R) X.xe { s1 with heap := h' } := fun he hk t t0 q =>
    wpAny_pyIter_enum he ⟨_, _, _, _, H1, rfl, J.kept (t' := s1.toks) hk, t, t0, IW.new_fp J (by simp), q⟩
  have ne1 : s1.heap.objs.size + 1 ≠ s1.heap.objs.size := Nat.succ_ne_self _
  obtain ⟨hq, q⟩ | ⟨hq, q⟩ := d
  · obtain ⟨its, _, at1, _⟩ := J.list hq
    exact call_enumerate_list at1.isList fun h' he hi _ hk => come he hk (turn_enum a _ _) ⟨⟨_, he⟩, hi, ne1⟩ q
  · obtain ⟨its, _, at1, _⟩ := J.tuple hq
    have lt : a < s1.heap.objs.size := let ⟨_, z, _⟩ := at1; Heap.lt_size z
    exact IW.enum_call (begins_tuple a its.toArray) at1 fun h' he hi hk => come he hk (turn_enumT a _ _ (Nat.ne_of_lt lt) (Nat.ne_of_lt (Nat.lt_succ_of_lt lt))) ⟨⟨_, he⟩, ⟨_, hi, rfl, rfl⟩, ne1⟩ q
end Men
namespace M
open PySem PySem.Spec PyProof.Rows L2
theorem it_enumT {K : PySem.W.Frag} {ns : Sc} {a : Addr} {us : List V} {xs : List D} : ItOk K ns (Men.IteT K a) (fun G => SqT K G a us ∧ QA K ns G us xs) (enumD xs) where
  mono := fun G G' s p => ⟨SqT.same s p.1, QA.mono s _ _ p.2⟩
  go := fun G H i d p s e => by
    obtain ⟨x, e1, rfl⟩ := enum_get e
    obtain ⟨v, ev, q⟩ := p.2.get e1
    exact ⟨us, v, SqT.same s.same p.1, ev⟩
  yld := fun G H i d x H' p s e y => by
    obtain ⟨T, v', rfl, hT, rfl, h1⟩ := y
    obtain ⟨x, e1, rfl⟩ := enum_get e
    obtain ⟨v, ev, q⟩ := p.2.get e1
    have z1 := h1 us (SqT.same s.same p.1)
    rw [ev] at z1
    cases z1
    exact pair_new s hT (.int _) q
  stop := fun G H p s => ⟨us, SqT.same s.same p.1, by rw [p.2.length]; simp [enumD]⟩
def enA (f : Rho → R D) : Rho → R (List D) := fun ρ => (f ρ).bind fun d => match d with
  | .list xs => .ok (enumD xs)
  | .tuple xs => .ok (enumD xs)
  | _ => .bad
section
variable {X : Cx} {c : Cm} {W : WM}
theorem mi_enumA {a : Expr} {f : Rho → R D} {p pos tpos : Pos} {elts : List Expr} {kk : Nat} (hg : Gl X "enumerate") (hm : X.mg "enumerate" = none) (ha : ME X c W a f) (hs1 : starEach [a] X.env = (false, eval a X.env) :: starEach [] X.env := by rfl) (hs : starEach [a] X.env = [(false, eval a X.env)] := by rfl) :
    MI X c W (.Tuple elts kk tpos) (.Call (.Name "enumerate" p) [a] [] pos) (enA f) := PI.imp (Men.pi_enumA hg hm (pa_cons ha pa_nil hs1) hs) fun σ H Rk ⟨G, ρ, ok, p⟩ => stepI ok p fun d G1 H1 v e1 g1 r1 ok1 p1 => by
  cases d with
  | list xs =>
    cases r1 with
    | lst h1 h2 => exact ⟨_, _, rfl, .inl ⟨SqL.of (ok1.s _ _ h1).1, p1 G1 H1 _ _ (Gr.refl ok1.s) it_enumL ⟨h1, h2⟩⟩⟩
  | tuple xs =>
    cases r1 with
    | tup h1 h2 => exact ⟨_, _, rfl, .inr ⟨SqT.same ok1.s.same h1, p1 G1 H1 _ _ (Gr.refl ok1.s) it_enumT ⟨h1, h2⟩⟩⟩
  | _ => exact p1.elim
end
end M

namespace Men
open PySem PySem.Spec PyProof.Rows L2 HT
section
variable {prog : Program} {w : World} {A : Around} {E : Value → Shared → Prop} {s : Shared}
theorem sliceApplied_rev {sl : Addr} {vl vu vs : Value} {n : Nat} {Q : Int × Int × Nat → Shared → Prop} (hs : s.heap.IsSliceOf sl vl vu vs) (pl : IsPart vl none) (pu : IsPart vu none) (ps : IsPart vs (some (-1)))
    (h : Q ((n : Int) - 1, -1, n) s) : wpAny (model prog w) A (Builtin.Slice.sliceApplied (.ref sl) (pure (n : Int))) Q E s := by
  obtain ⟨os, hos, hcs, hds⟩ := id hs
  unfold Builtin.Slice.sliceApplied Builtin.Slice.sliceFields
  refine wpAny_bind (wpAny_bind (wpAny_field hos hds (x := vl) rfl (wpAny_bind (wpAny_field hos hds (x := vu) rfl (wpAny_bind (wpAny_field hos hds (x := vs) rfl (wpAny_pure ?_)))))))
  refine wpAny_bind (slicePart_ ps ?_)
  show wpAny _ _ (if ((-1 : Int) == 0) = true then _ else _) _ _ s
  rw [if_neg (by decide)]
  refine wpAny_bind (slicePart_ pl (wpAny_bind (slicePart_ pu (wpAny_bind (wpAny_pure ?_)))))
  show wpAny _ _ (match Builtin.Slice.sliceAdjust none none (-1) (n : Int) with | (lo, hi) => pure (lo, (-1 : Int), Builtin.Slice.slicePlaces lo hi (-1))) _ _ s
  have e : Builtin.Slice.sliceAdjust none none (-1) (n : Int) = ((n : Int) - 1, -1) := rfl
  rw [e]
  have e2 : Builtin.Slice.slicePlaces ((n : Int) - 1) (-1) (-1) = n := by
    unfold Builtin.Slice.slicePlaces
    rw [if_neg (by decide)]
    by_cases c : (n : Int) - 1 > -1
    · rw [if_pos c, show (- -1 : Int) = 1 by decide, Int.ediv_one]
      omega
    · rw [if_neg c]
      omega
  show wpAny _ _ (pure ((n : Int) - 1, (-1 : Int), Builtin.Slice.slicePlaces ((n : Int) - 1) (-1) (-1))) _ _ s
  rw [e2]
  exact wpAny_pure h
theorem fm_congr {α β : Type} {f g : α → Option β} : ∀ l : List α, (∀ x ∈ l, f x = g x) → l.filterMap f = l.filterMap g
  | [], _ => rfl
  | x :: l, h => by
    rw [List.filterMap_cons, List.filterMap_cons, h x (by simp), fm_congr l fun y hy => h y (by simp [hy])]
theorem pick_rev (xs : Array Value) : ((List.range xs.size).filterMap fun (m : Nat) => xs[((xs.size : Int) - 1 + (m : Int) * -1).toNat]?).toArray = xs.toList.reverse.toArray := by
  have h := PySem.W.krv_pick xs
  unfold slicePick at h
  rw [PySem.W.krv_bounds] at h
  rw [← h]
  show _ = ((sliceRange ((xs.size : Int) - 1) (-1) (-1)).filterMap (xs[·]?)).toArray
  rw [PySem.W.krv_sliceRange, List.filterMap_map]
  congr 1
  refine fm_congr _ fun m hm => ?_
  have := List.mem_range.mp hm
  rw [show ((xs.size : Int) - 1 + (m : Int) * -1).toNat = xs.size - 1 - m by omega]
  rfl
/-- a slice of a tuple that goes backwards: a new tuple of what it picks -/
theorem tup_back {t sl : Addr} {items ys : Array Value} {vl vu vs : Value} {lo : Int} {n : Nat} {Q : Value → Shared → Prop} (ht : IsTup s.heap t items) (hs : s.heap.IsSliceOf sl vl vu vs)
    (app : ∀ {A : Around} {E : Value → Shared → Prop} {R : Int × Int × Nat → Shared → Prop}, R (lo, -1, n) s → wpAny (model prog w) A (Builtin.Slice.sliceApplied (.ref sl) (pure (items.size : Int))) R E s)
    (pick : ((List.range n).filterMap fun (m : Nat) => items[(lo + (m : Int) * -1).toNat]?).toArray = ys) (fit : ys.size ≤ sizeLine)
    (h : Q (.ref s.heap.objs.size) { s with heap := s.heap.push { cls := .type "tuple", data := .seq ys } }) : wpAny (model prog w) A (getItem (.ref t) (.ref sl)) Q E s := by
  subst pick
  have isSl : s.TypeIs (.ref sl) "slice" := let ⟨o, e, c, _⟩ := hs; ⟨o, e, c⟩
  have made : ∀ {A : Around}, wpAny (model prog w) A (Builtin.Tuple.tupleExact ((List.range n).filterMap fun (m : Nat) => items[(lo + (m : Int) * -1).toNat]?).toArray >>= fun v => ret v) (fun fin s' => ∃ v, fin = .done (.ret v) ∧ Q v s') E s :=
    wpAny_bind (wpAny_newObj_type (wpAny_pure ⟨_, rfl, h⟩) fit)
  refine wpAny_getItem_slot ht.typeIs (by decide) PyProof.Rows.slot_tuple_getitem (wpAny_call_entry PyProof.Rows.slot_tuple_getitem ht.typeIs entry_tuple_getitem ?_ (args_tuple_getitem _ _))
  refine wpAny_bind (m := Builtin.Tuple.tupleItemsOf (.ref t)) (tupleItemsOf_ ht (wpAny_bind (wpAny_typeOf isSl ?_)))
  rw [if_pos (by decide)]
  refine wpAny_bind (app ?_)
  have ne : (lo == 0 && (-1 : Int) == 1 && n == items.size) = false := by simp
  refine PySem.W.KFB.if_not ne ?_
  exact made
theorem getItem_tuple_rev {t sl : Addr} {items : Array Value} {vl vu vs : Value} {Q : Value → Shared → Prop} (ht : IsTup s.heap t items) (hs : s.heap.IsSliceOf sl vl vu vs) (pl : IsPart vl none) (pu : IsPart vu none) (ps : IsPart vs (some (-1)))
    (h : Q (.ref s.heap.objs.size) { s with heap := s.heap.push { cls := .type "tuple", data := .seq items.toList.reverse.toArray } })
    (hsz : items.size ≤ sizeLine) : wpAny (model prog w) A (getItem (.ref t) (.ref sl)) Q E s :=
  tup_back ht hs (fun q => sliceApplied_rev hs pl pu ps q) (pick_rev items) (by simpa using hsz) h
end
/-- a part of a slice whose worth is known ahead -/
def Kn (X : Cx) (e : Option Expr) (o : Option Int) : Prop := ∃ t : TO, PO X e t ∧ ∀ σ H (Q : Option Int → Hp → Prop), Q o H → t σ H Q
theorem kn_no {X : Cx} : Kn X none none := ⟨_, po_none, fun _ _ _ q => q⟩
theorem kn_int {X : Cx} {i : Int} {k : Nat} {p : Pos} : Kn X (some (.Constant (.int i) k p)) (some i) := ⟨_, po_some pe_int, fun _ _ _ q => ⟨i, rfl, q⟩⟩
theorem kn_neg {X : Cx} {i : Int} {k : Nat} {p1 p2 : Pos} : Kn X (some (.UnaryOp .USub (.Constant (.int i) k p1) p2)) (some (-i)) := ⟨_, po_some (pe_un un_neg pe_int), fun _ _ _ q => ⟨i, rfl, -i, rfl, q⟩⟩
/-- e[lo:hi:st], its parts known: what is left is the item itself -/
theorem pe_cut {X : Cx} {e : Expr} {lo hi st : Option Expr} {te : TE} {a b c : Option Int} {p3 pos : Pos} {W : V → Hp → VK → Prop} (he : PE X e te) (k1 : Kn X lo a) (k2 : Kn X hi b) (k3 : Kn X st c)
    (fin : ∀ (pins : List (Addr × Obj)) (s : Shared) (σ : L2.St) (H : Hp) (Q : VK) (x : V) (v : Value) (sl : Addr) (vl vu vs : Value), Inv X pins σ H s → RelV x v → s.heap.IsSliceOf sl vl vu vs → IsPart vl a → IsPart vu b → IsPart vs c → W x H Q →
      wpAny (model X.prog X.w) X.A (subscriptTail e (.Slice lo hi st p3) v (.ref sl)) (EP X pins σ Q) X.xe s) :
    PE X (.Subscript e (.Slice lo hi st p3) pos) (fun σ H Q => te σ H fun x H1 => W x H1 Q) := by
  obtain ⟨t1, r1, g1⟩ := k1
  obtain ⟨t2, r2, g2⟩ := k2
  obtain ⟨t3, r3, g3⟩ := k3
  constructor
  intro pins s σ H Q I h
  refine Subscript_ (thn (he.run pins s σ H _ I h) fun v s1 ⟨x, H1, I1, rel, wx⟩ => wpAny_Slice ?_)
  refine thn (r1.run pins s1 σ H1 (fun o G => o = a ∧ G = H1) I1 (g1 _ _ _ ⟨rfl, rfl⟩)) fun vl s2 ⟨_, _, I2, part1, ea, eh⟩ => ?_
  subst ea eh
  refine thn (r2.run pins s2 σ _ (fun o G => o = b ∧ G = _) I2 (g2 _ _ _ ⟨rfl, rfl⟩)) fun vu s3 ⟨_, _, I3, part2, ea, eh⟩ => ?_
  subst ea eh
  refine thn (r3.run pins s3 σ _ (fun o G => o = c ∧ G = _) I3 (g3 _ _ _ ⟨rfl, rfl⟩)) fun vs s4 ⟨_, _, I4, part3, ea, eh⟩ => ?_
  subst ea eh
  exact fin pins _ σ _ Q x v _ vl vu vs (I4.kept (t' := s4.toks) fun _ _ z => Heap.get?_push_of_some _ z) rel (Heap.IsSliceOf.new _ vl vu vs) part1 part2 part3 wx
section
variable {X : Cx} {pins : List (Addr × Obj)} {σ : L2.St} {H : Hp} {s : Shared}
/-- the item's object is laid -/
theorem cut_laid {Q : VK} {o : HO} {u : Obj} (I : Inv X pins σ H s) (new : ObjOk X.prog X.w (upd H s.heap.objs.size o) (s.heap.push u) s.heap.objs.size o) (q : ∀ p, H p = none → Q (.ref p) (upd H p o)) : EP X pins σ Q (.ref s.heap.objs.size) { s with heap := s.heap.push u } :=
  ⟨.ref _, _, I.laid (t' := s.toks) (fun _ _ z => Heap.get?_push_of_some _ z) (Nat.le_refl _) new, rfl, q _ (I.hok.fresh (Nat.le_refl _))⟩
def tRevA (K : PySem.W.Frag) (te : TE) : TE := fun σ H Q => te σ H fun x H1 => ∃ a xs, x = .ref a ∧ ((SqL K H1 a xs ∧ ∀ p, H1 p = none → Q (.ref p) (upd H1 p (.lst xs.reverse))) ∨ (SqT K H1 a xs ∧ ∀ p, H1 p = none → Q (.ref p) (upd H1 p (.tup xs.reverse))))
theorem pe_revA {e : Expr} {te : TE} {k : Nat} {p1 p2 p3 pos : Pos} (he : PE X e te) : PE X (.Subscript e (.Slice none none (some (.UnaryOp .USub (.Constant (.int 1) k p1) p2)) p3) pos) (tRevA X.K te) := by
  refine pe_cut (te := te) he kn_no kn_no kn_neg fun pins s σ H Q x v sl vl vu vs I rel hs part1 part2 part3 ⟨a, xs, ex, d⟩ => ?_
  subst ex
  cases rel
  obtain ⟨hx, q⟩ | ⟨hx, q⟩ := d
  · obtain ⟨its, rv, p, fit⟩ := I.list hx
    have len := rv.length
    refine tail_any (ops := [.ref a, .ref sl]) p.isList.typeIs (PySem.slot_list_getitem.lookup) (wpAny_getItem_list_slice p.isList hs part1 part2 part3 (by decide) ?_ (by rw [List.size_toArray]; omega)) (by with_unfolding_all rfl)
    refine cut_laid I (o := .lst xs.reverse) ⟨by simpa using fit, its.reverse, 0, rv.reverse, ?_⟩ q
    rw [PySem.W.krv_pick]
    exact Heap.get?_push_size _ rfl
  · obtain ⟨its, rv, p, fit⟩ := I.tuple hx
    have len := rv.length
    exact tail_any (ops := [.ref a, .ref sl]) p.typeIs (PyProof.Rows.slot_tuple_getitem.lookup) (getItem_tuple_rev p hs part1 part2 part3 (cut_laid I (o := .tup xs.reverse) ⟨by simpa using fit, _, rv.reverse, IsTup.new _ _⟩ q) (by rw [List.size_toArray]; omega)) (by with_unfolding_all rfl)
end
end Men
namespace M
open PySem PySem.Spec PyProof.Rows L2
def revA : D → Option D
  | .list xs => some (.list xs.reverse)
  | .tuple xs => some (.tuple xs.reverse)
  | _ => none
section
variable {X : Cx} {c : Cm} {W : WM}
theorem me_revA {e : Expr} {f : Rho → R D} {k : Nat} {p1 p2 p3 pos : Pos} (he : MB X c W e f) : ME X c W (.Subscript e (.Slice none none (some (.UnaryOp .USub (.Constant (.int 1) k p1) p2)) p3) pos) (e1 revA f) :=
  PE.imp (Men.pe_revA he) fun σ H Qk ⟨G, ρ, ok, p⟩ => step ok p fun x G1 H1 v _ g1 r1 ok1 p1 => by
    cases x with
    | list xs =>
      obtain ⟨a, us, rfl, h1, q1⟩ := r1.list ok1.s
      exact ⟨a, us, rfl, .inl ⟨SqL.of h1, newL ok1.s q1.rev rfl p1⟩⟩
    | tuple xs =>
      obtain ⟨a, us, rfl, h1, q1, h2⟩ := r1.tuple ok1.s
      exact ⟨a, us, rfl, .inr ⟨h1, newT ok1.s q1.rev rfl p1⟩⟩
    | _ => exact p1.elim
end
end M

namespace SrtO
open PySem PyProof.Rows Srt
section
variable {prog : Program} {w : World} {A : Around} {E : Value → Shared → Prop} {s : Shared}
theorem swo_code (B : Int) (k : Value → List Int) : Swo fun v u => decide (TS.code B (k v) < TS.code B (k u)) := by
  refine ⟨fun x y h => ?_, fun x y z h1 h2 => ?_⟩
  · have a := of_decide_eq_true h
    exact decide_eq_false (by omega)
  · have a := of_decide_eq_false h1
    have b := of_decide_eq_false h2
    exact decide_eq_false (by omega)
theorem tups_sortableO {a : Addr} {vs : List Value} {k : Value → List Int} {d : Nat} {B : Int} (hd1 : 1 ≤ d) (h0 : 0 < vs.length) (hp : ∀ v ∈ vs, TS.TupInts s.heap v (k v) ∧ (k v).length = d ∧ TS.Bd B (k v)) (ha : ∀ o, s.heap.get? a = some o → o.cls ≠ .type "tuple") :
    SortableO prog w A s a vs fun v u => decide (TS.code B (k v) < TS.code B (k u)) := by
  intro h' keep
  have hp' : ∀ v ∈ vs, TS.TupInts h' v (k v) ∧ (k v).length = d ∧ TS.Bd B (k v) := fun v hm => ⟨(hp v hm).1.keeps fun b o e c => keep b o (fun z => by subst z; exact ha o e c) e, (hp v hm).2⟩
  obtain ⟨fs, h1, h2, h3⟩ := TS.firsts_of (h := h') (d := d) (B := B) hd1 vs fun v hv => ⟨k v, hp' v hv⟩
  have kind : (Value.type "int" != Value.type "tuple") = true := by decide
  refine ⟨tuples' true, fun Q E hq => PySem.W.kat_kind (T := .type "int") h1 (by omega) (fun f hm => ?_) (by rfl) (kind.symm ▸ hq), ?_⟩
  · obtain ⟨x, t, ef⟩ := h3 f hm
    rw [ef]
    exact PySem.W.Looks.now
  · intro p q hm hm'
    obtain ⟨⟨a1, xs, e1, ⟨o, ho, hc, n, hdt⟩, i⟩, l1, b1⟩ := hp' _ hm
    obtain ⟨⟨a2, ys, e2, ⟨o', ho', hc', n', hdt'⟩, i'⟩, l2, b2⟩ := hp' _ hm'
    show wpAny (model prog w) A (keyLt' (tuples' true) p.1 q.1) (fun r s' => s' = { s with heap := h' } ∧ r = decide (TS.code B (k p.1) < TS.code B (k q.1))) (fun _ _ => False) { s with heap := h' }
    generalize k p.1 = ns at *
    generalize k q.1 = ms at *
    rw [e1, e2]
    refine PySem.W.kat_lt ho hdt ho' hdt' ?_
    have sz : decide (xs.size < ys.size) = false := by
      have z1 := i.length
      have z2 := i'.length
      rw [Array.length_toList] at z1 z2
      exact decide_eq_false (by omega)
    rw [sz]
    exact TS.lex_ints 0 i i' (by omega) b1 b2 ⟨rfl, rfl⟩
end
end SrtO
namespace L2
open PySem PySem.Spec PyProof.Rows
/-- sorted(xs), xs a list of tuples of d ints each in [0, B); ns: their ints -/
def rSortedT (K : PySem.W.Frag) : List V → Hp → VK → Prop := fun vs H Q => ∃ (a : Addr) (xs : List V) (ns : List (List Int)) (d : Nat) (B : Int), vs = [V.ref a] ∧ SqL K H a xs ∧ 1 ≤ d ∧ xs.length = ns.length ∧ (∀ z ∈ xs.zip ns, (∃ t, z.1 = V.ref t ∧ SqT K H t (z.2.map V.int)) ∧ z.2.length = d ∧ TS.Bd B z.2) ∧
  ∀ (zs : List (V × List Int)) (p : Addr), zs.Perm (xs.zip ns) → (zs.map fun z => TS.code B z.2).Pairwise (· ≤ ·) → H p = none → Q (.ref p) (upd H p (.lst (zs.map (·.1))))
theorem zip_fn {α β : Type} (k : α → β) : ∀ (xs : List α) (ns : List β), xs.length = ns.length → (∀ z ∈ xs.zip ns, k z.1 = z.2) → xs.zip ns = xs.map fun x => (x, k x)
  | [], [], _, _ => rfl
  | [], _ :: _, h, _ => by simp at h
  | _ :: _, [], h, _ => by simp at h
  | x :: xs, n :: ns, h, hk => by
    rw [List.zip_cons_cons, List.map_cons, zip_fn k xs ns (by simpa using h) fun z hz => hk z (by simp [hz]), show n = k x from (hk (x, n) (by simp)).symm]
theorem zip_mem {α β : Type} : ∀ (xs : List α) (ns : List β), xs.length = ns.length → ∀ x ∈ xs, ∃ n, (x, n) ∈ xs.zip ns
  | [], _, _, x, h => by simp at h
  | _ :: _, [], h, _, _ => by simp at h
  | y :: xs, n :: ns, h, x, hx => by
    rcases List.mem_cons.mp hx with rfl | hx
    · exact ⟨n, by simp⟩
    · obtain ⟨m, hm⟩ := zip_mem xs ns (by simpa using h) x hx
      exact ⟨m, by simp [hm]⟩
theorem int_inj : ∀ {a b : List Int}, a.map V.int = b.map V.int → a = b
  | [], [], _ => rfl
  | [], _ :: _, h => by simp at h
  | _ :: _, [], h => by simp at h
  | x :: a, y :: b, h => by
    simp only [List.map_cons, List.cons.injEq, V.int.injEq] at h
    rw [h.1, int_inj h.2]
section
variable {X : Cx}
open Classical in
theorem cr_sortedT : CallR X (.builtin "sorted") (rSortedT X.K) := by
  intro pins s σ H vs us Q I r h
  obtain ⟨a, xs, ns, d, B, rfl, hs, hd1, hln, hx, q⟩ := h
  obtain ⟨its, rv, hl, hz⟩ := I.list hs
  obtain ⟨u, rfl, ru⟩ := vals1 r
  obtain rfl : u = Value.ref a := ru
  let k : V → List Int := fun x => if h : ∃ n : List Int, ∃ t, x = V.ref t ∧ SqT X.K H t (n.map V.int) then choose h else []
  have hk : ∀ z ∈ xs.zip ns, k z.1 = z.2 := fun z hzm => by
    obtain ⟨⟨t, e, ht⟩, _⟩ := hx z hzm
    have hex : ∃ n : List Int, ∃ t, z.1 = V.ref t ∧ SqT X.K H t (n.map V.int) := ⟨z.2, t, e, ht⟩
    have hc := choose_spec hex
    show (if h : ∃ n : List Int, ∃ t, z.1 = V.ref t ∧ SqT X.K H t (n.map V.int) then choose h else []) = z.2
    rw [dif_pos hex]
    obtain ⟨t', e', ht'⟩ := hc
    rw [e] at e'
    cases e'
    exact int_inj (I.tuple_inj ht' ht)
  have hx' : ∀ x ∈ xs, (∃ t, x = V.ref t ∧ SqT X.K H t ((k x).map V.int)) ∧ (k x).length = d ∧ TS.Bd B (k x) := fun x hxm => by
    obtain ⟨n, hn⟩ := zip_mem xs ns hln x hxm
    have := hx _ hn
    rw [← hk _ hn] at this
    exact this
  obtain ⟨e1, e2⟩ := refs_back rv fun x m => by
    obtain ⟨⟨t, e, _⟩, _⟩ := hx' x m
    exact ⟨t, e⟩
  have hp : ∀ v ∈ its, TS.TupInts s.heap v (k (backV v)) ∧ (k (backV v)).length = d ∧ TS.Bd B (k (backV v)) := fun v hv => by
    obtain ⟨t, rfl⟩ := e2 v hv
    have hm : V.ref t ∈ xs := by rw [e1]; exact List.mem_map.mpr ⟨_, hv, rfl⟩
    obtain ⟨⟨t', e, ht⟩, h2⟩ := hx' _ hm
    cases e
    obtain ⟨its2, r2, ht2, _⟩ := I.tuple ht
    exact ⟨⟨t, its2.toArray, rfl, ht2, by show IntsAre its2.toArray.toList (k (V.ref t)); simpa using ints_vals r2⟩, h2⟩
  refine SrtO.sorted_ord (SrtO.swo_code B fun v => k (backV v)) hl.isList (by rw [← rv.length]; exact hz) (fun h2 h₁ a' ha kk => ?_) fun out h1 h2 => ?_
  · refine SrtO.tups_sortableO (s := { s with heap := h₁ }) hd1 (by omega) (fun v hm => ⟨(hp v hm).1.keeps fun b o e _ => (kk b o e).2, (hp v hm).2⟩) fun o e => ?_
    have e' : some o = some (seqObj "list" its.toArray 0) := e.symm.trans ha
    cases e'
    intro c
    exact absurd (Value.type.inj c) (by decide)
  · have h3 : ∀ u ∈ out, ∃ a, u = Value.ref a := fun u hu => e2 u (h2.perm.mem_iff.mp hu)
    obtain ⟨n, hn⟩ := sortedAll_at s.heap its out.toArray
    have hq := q ((out.map backV).map fun x => (x, k x)) (s.heap.objs.size + 1) (by
      rw [zip_fn k xs ns hln hk]
      refine List.Perm.map _ ?_
      rw [e1]
      exact h2.perm.map backV) (by
      rw [List.map_map, List.map_map, List.pairwise_map]
      exact (show List.Pairwise _ out from h1).imp fun {x y} z => by
        have := of_decide_eq_false z
        simp only [Function.comp]
        omega) (I.hok.fresh (Nat.le_succ _))
    rw [List.map_map, show ((fun x : V × List Int => x.1) ∘ fun x => (x, k x)) = id from rfl, List.map_id] at hq
    refine ⟨.ref _, upd H _ (.lst (out.map backV)), I.laid (t' := s.toks) (fun b o e => sortedAll_old e) (Nat.le_succ _) ⟨?_, out, n, vals_back h3, hn⟩, rfl, hq⟩
    rw [List.length_map, h2.perm.length_eq, ← rv.length]; exact hz
end
end L2
namespace M
open PySem PySem.Spec PyProof.Rows L2
/-! ### sorted, of tuples of ints -/
/-- the ints of a row of tuples -/
def rowsOf : List D → Option (List (List Int))
  | [] => some []
  | .tuple xs :: r => match intsOf xs, rowsOf r with
    | some is, some rs => some (is :: rs)
    | _, _ => none
  | _ :: _ => none
def tupD (is : List Int) : D := .tuple (is.map .int)
theorem rows_eq : ∀ {ds : List D} {rs : List (List Int)}, rowsOf ds = some rs → ds = rs.map tupD
  | [], _, h => by cases h; rfl
  | d :: ds, rs, h => by
    cases d with
    | tuple xs =>
      unfold rowsOf at h
      cases e1 : intsOf xs with
      | none => rw [e1] at h; cases h
      | some is =>
        cases e2 : rowsOf ds with
        | none => rw [e1, e2] at h; cases h
        | some rs' =>
          rw [e1, e2] at h
          cases h
          rw [List.map_cons, ← rows_eq e2, tupD, ← ints_eq e1]
    | _ => cases h
def insT (B : Int) (x : List Int) : List (List Int) → List (List Int)
  | [] => [x]
  | y :: r => if TS.code B x ≤ TS.code B y then x :: y :: r else y :: insT B x r
def sortT (B : Int) : List (List Int) → List (List Int)
  | [] => []
  | x :: r => insT B x (sortT B r)
theorem insT_perm (B : Int) (x : List Int) : ∀ l, (insT B x l).Perm (x :: l)
  | [] => .refl _
  | y :: r => by
    unfold insT
    split
    · exact .refl _
    · exact ((insT_perm B x r).cons y).trans (.swap x y r)
theorem sortT_perm (B : Int) : ∀ l, (sortT B l).Perm l
  | [] => .refl _
  | x :: r => (insT_perm B x (sortT B r)).trans ((sortT_perm B r).cons x)
theorem insT_sorted (B : Int) (x : List Int) : ∀ {l : List (List Int)}, l.Pairwise (fun a b => TS.code B a ≤ TS.code B b) → (insT B x l).Pairwise (fun a b => TS.code B a ≤ TS.code B b)
  | [], _ => by simp [insT]
  | y :: r, h => by
    unfold insT
    have h' := List.pairwise_cons.mp h
    split
    · rename_i hx
      exact List.pairwise_cons.mpr ⟨fun z hz => by
        rcases List.mem_cons.mp hz with rfl | hz
        · exact hx
        · exact Int.le_trans hx (h'.1 z hz), h⟩
    · rename_i hx
      refine List.pairwise_cons.mpr ⟨fun z hz => ?_, insT_sorted B x h'.2⟩
      rcases List.mem_cons.mp ((insT_perm B x r).mem_iff.mp hz) with rfl | hz
      · omega
      · exact h'.1 z hz
theorem sortT_sorted (B : Int) : ∀ l, (sortT B l).Pairwise (fun a b => TS.code B a ≤ TS.code B b)
  | [] => .nil
  | x :: r => insT_sorted B x (sortT_sorted B r)
theorem code_inj {B : Int} : ∀ {a b : List Int}, a.length = b.length → TS.Bd B a → TS.Bd B b → TS.code B a = TS.code B b → a = b
  | [], [], _, _, _, _ => rfl
  | [], _ :: _, h, _, _, _ => by simp at h
  | _ :: _, [], h, _, _, _ => by simp at h
  | x :: a, y :: b, h, h1, h2, e => by
    have hl : a.length = b.length := by simpa using h
    rcases Int.lt_trichotomy x y with z | z | z
    · have := TS.code_lt hl h1.tail h2.tail z
      omega
    · subst z
      have n1 : ¬ TS.code B a < TS.code B b := fun q => by
        have := (TS.code_same (d := x) hl).mpr q
        omega
      have n2 : ¬ TS.code B b < TS.code B a := fun q => by
        have := (TS.code_same (d := x) hl.symm).mpr q
        omega
      rw [code_inj hl h1.tail h2.tail (by omega)]
    · have := TS.code_lt hl.symm h2.tail h1.tail z
      omega
/-- all as long as the first, all in [0, 64) -/
def rowsOk (rs : List (List Int)) : Bool := match rs with
  | [] => false
  | r :: _ => decide (1 ≤ r.length) && rs.all fun x => decide (x.length = r.length) && x.all fun i => decide (0 ≤ i) && decide (i < 64)
def sortTD : List D → Option D
  | [.list xs] => match rowsOf xs with
    | some rs => if rowsOk rs = true then some (.list ((sortT 64 rs).map tupD)) else none
    | none => none
  | _ => none
theorem QA.zip {K : PySem.W.Frag} {ns : Sc} {G : Hp} : ∀ {us : List V} {rs : List (List Int)}, QA K ns G us (rs.map tupD) → us.length = rs.length ∧ ∀ z ∈ us.zip rs, Q K ns G z.1 (tupD z.2)
  | us, [], q => by cases q; exact ⟨rfl, fun z hz => by simp at hz⟩
  | us, r :: rs, q => by
    cases q with
    | cons q1 q2 =>
      obtain ⟨h1, h2⟩ := QA.zip q2
      exact ⟨by simp [h1], fun z hz => by
        rw [List.zip_cons_cons] at hz
        rcases List.mem_cons.mp hz with rfl | hz
        · exact q1
        · exact h2 z hz⟩
theorem QA.unzip {K : PySem.W.Frag} {ns : Sc} {G : Hp} : ∀ {zs : List (V × List Int)}, (∀ z ∈ zs, Q K ns G z.1 (tupD z.2)) → QA K ns G (zs.map (·.1)) ((zs.map (·.2)).map tupD)
  | [], _ => .nil
  | z :: zs, h => .cons (h z (by simp)) (QA.unzip fun y hy => h y (by simp [hy]))
theorem zip_snd {α β : Type} : ∀ (xs : List α) (ns : List β), xs.length = ns.length → (xs.zip ns).map (·.2) = ns
  | [], [], _ => rfl
  | [], _ :: _, h => by simp at h
  | _ :: _, [], h => by simp at h
  | x :: xs, n :: ns, h => by rw [List.zip_cons_cons, List.map_cons, zip_snd xs ns (by simpa using h)]
section
variable {X : Cx} {c : Cm} {W : WM}
theorem cad_sortedT : CaD X c.ns (rSortedT X.K) sortTD := fun G H vs ds d Qk e s b k => by
  unfold sortTD at e
  split at e
  · rename_i xs
    cases er : rowsOf xs with
    | none => rw [er] at e; cases e
    | some rs =>
      rw [er] at e
      simp only at e
      by_cases hok : rowsOk rs = true
      · rw [if_pos hok] at e
        cases e
        obtain ⟨v, ws, rfl, b1, b2⟩ := b.cons_inv
        obtain rfl := b2.nil_inv
        obtain ⟨a, us, rfl, h1, q1⟩ := b1.list s
        have hrs := rows_eq er
        subst hrs
        obtain ⟨hln, hzq⟩ := q1.zip
        cases rs with
        | nil => cases hok
        | cons r0 rs =>
          have hok' := hok
          unfold rowsOk at hok'
          simp only at hok'
          rw [Bool.and_eq_true] at hok'
          have hd1 : 1 ≤ r0.length := of_decide_eq_true hok'.1
          have hall : ∀ r ∈ r0 :: rs, r.length = r0.length ∧ TS.Bd 64 r := fun r hr => by
            have := List.all_eq_true.mp hok'.2 r hr
            rw [Bool.and_eq_true] at this
            exact ⟨of_decide_eq_true this.1, fun m hm => by
              have := List.all_eq_true.mp this.2 m hm
              simpa using this⟩
          refine ⟨a, us, r0 :: rs, r0.length, 64, rfl, SqL.of h1, hd1, hln, fun z hz => ⟨?_, hall _ (List.of_mem_zip (a := z.1) (b := z.2) hz).2⟩, fun zs p hp hs hpn => ?_⟩
          · have hq := hzq z hz
            generalize z.1 = x at hq
            generalize z.2 = r at hq
            unfold tupD at hq
            cases hq with
            | tup g1 g2 =>
              obtain rfl := g2.ints_inv
              exact ⟨_, rfl, SqT.same s.same g1⟩
          · have hsn : (zs.map (·.2)).Perm (r0 :: rs) := by
              have := hp.map (·.2)
              rwa [zip_snd _ _ hln] at this
            have hes : zs.map (·.2) = sortT 64 (r0 :: rs) := by
              refine List.Perm.eq_of_pairwise (le := fun a b => TS.code 64 a ≤ TS.code 64 b) (fun a b ha hb h h' => ?_) ?_ (sortT_sorted 64 _) (hsn.trans (sortT_perm 64 _).symm)
              · have m1 := hall a (hsn.mem_iff.mp ha)
                have m2 := hall b ((sortT_perm 64 _).mem_iff.mp hb)
                exact code_inj (by omega) m1.2 m2.2 (by omega)
              · rw [List.pairwise_map]
                rw [List.pairwise_map] at hs
                exact hs
            refine newL s (QA.unzip fun z hz => hzq z (hp.mem_iff.mp hz)) ?_ k p hpn
            rw [hes]
      · rw [if_neg hok] at e; cases e
  · cases e
theorem car_sortedA : CallR X (.builtin "sorted") (fun vs H Q => rSortedI X.K vs H Q ∨ rSortedT X.K vs H Q) := cr_sortedI.or cr_sortedT
def sortAD (ds : List D) : Option D := match sortD ds with
  | some d => some d
  | none => sortTD ds
theorem cad_sortedA : CaD X c.ns (fun vs H Q => rSortedI X.K vs H Q ∨ rSortedT X.K vs H Q) sortAD := fun G H vs ds d Qk e s b k => by
  unfold sortAD at e
  cases h : sortD ds with
  | some d' =>
    rw [h] at e
    cases e
    exact .inl (cad_sorted G H vs ds d Qk h s b k)
  | none =>
    rw [h] at e
    exact .inr (cad_sortedT G H vs ds d Qk e s b k)
end
end M
namespace Men
open PySem PySem.Spec PyProof.Rows L2 HT
section
variable {prog : Program} {w : World} {A : Around} {E : Value → Shared → Prop} {s : Shared}
theorem sliceApplied_rev0 {sl : Addr} {vl vu vs : Value} {n : Nat} {Q : Int × Int × Nat → Shared → Prop} (hs : s.heap.IsSliceOf sl vl vu vs) (pl : IsPart vl none) (pu : IsPart vu (some 0)) (ps : IsPart vs (some (-1)))
    (h : Q ((n : Int) - 1, -1, n - 1) s) : wpAny (model prog w) A (Builtin.Slice.sliceApplied (.ref sl) (pure (n : Int))) Q E s := by
  obtain ⟨os, hos, hcs, hds⟩ := id hs
  unfold Builtin.Slice.sliceApplied Builtin.Slice.sliceFields
  refine wpAny_bind (wpAny_bind (wpAny_field hos hds (x := vl) rfl (wpAny_bind (wpAny_field hos hds (x := vu) rfl (wpAny_bind (wpAny_field hos hds (x := vs) rfl (wpAny_pure ?_)))))))
  refine wpAny_bind (slicePart_ ps ?_)
  show wpAny _ _ (if ((-1 : Int) == 0) = true then _ else _) _ _ s
  rw [if_neg (by decide)]
  refine wpAny_bind (slicePart_ pl (wpAny_bind (slicePart_ pu (wpAny_bind (wpAny_pure ?_)))))
  show wpAny _ _ (match Builtin.Slice.sliceAdjust none (some 0) (-1) (n : Int) with | (lo, hi) => pure (lo, (-1 : Int), Builtin.Slice.slicePlaces lo hi (-1))) _ _ s
  have e : Builtin.Slice.sliceAdjust none (some 0) (-1) (n : Int) = ((n : Int) - 1, min 0 ((n : Int) - 1)) := rfl
  rw [e]
  have e2 : Builtin.Slice.slicePlaces ((n : Int) - 1) (min 0 ((n : Int) - 1)) (-1) = n - 1 := by
    unfold Builtin.Slice.slicePlaces
    rw [if_neg (by decide)]
    by_cases c : (n : Int) - 1 > min 0 ((n : Int) - 1)
    · rw [if_pos c, show (- -1 : Int) = 1 by decide, Int.ediv_one]
      omega
    · rw [if_neg c]
      omega
  show wpAny _ _ (pure ((n : Int) - 1, (-1 : Int), Builtin.Slice.slicePlaces ((n : Int) - 1) (min 0 ((n : Int) - 1)) (-1))) _ _ s
  rw [e2]
  exact wpAny_pure h
theorem pick_rev0 (xs : Array Value) : ((List.range (xs.size - 1)).filterMap fun (m : Nat) => xs[((xs.size : Int) - 1 + (m : Int) * -1).toNat]?).toArray = (xs.toList.drop 1).reverse.toArray := by
  have h := pick_run xs 1 (xs.size - 1)
  rw [List.take_of_length_le (by simp)] at h
  congr 1
  rw [← h, ← List.filterMap_reverse, ← List.map_reverse, List.filterMap_map]
  have e : (List.range (xs.size - 1)).reverse = (List.range (xs.size - 1)).map fun m => xs.size - 1 - 1 - m := by
    refine List.ext_getElem (by simp) fun i h1 h2 => ?_
    simp at h1
    simp
  rw [e, List.filterMap_map]
  refine fm_congr _ fun m hm => ?_
  have := List.mem_range.mp hm
  show xs[((xs.size : Int) - 1 + (m : Int) * -1).toNat]? = xs[1 + (xs.size - 1 - 1 - m)]?
  rw [show ((xs.size : Int) - 1 + (m : Int) * -1).toNat = 1 + (xs.size - 1 - 1 - m) by omega]
theorem getItem_tuple_rev0 {t sl : Addr} {items : Array Value} {vl vu vs : Value} {Q : Value → Shared → Prop} (ht : IsTup s.heap t items) (hs : s.heap.IsSliceOf sl vl vu vs) (pl : IsPart vl none) (pu : IsPart vu (some 0)) (ps : IsPart vs (some (-1)))
    (h : Q (.ref s.heap.objs.size) { s with heap := s.heap.push { cls := .type "tuple", data := .seq (items.toList.drop 1).reverse.toArray } })
    (hsz : items.size ≤ sizeLine) : wpAny (model prog w) A (getItem (.ref t) (.ref sl)) Q E s :=
  tup_back ht hs (fun q => sliceApplied_rev0 hs pl pu ps q) (pick_rev0 items) (by simp; omega) h
end
section
variable {X : Cx}
def tRev0 (K : PySem.W.Frag) (te : TE) : TE := fun σ H Q => te σ H fun x H1 => ∃ a xs, x = .ref a ∧ SqT K H1 a xs ∧ ∀ p, H1 p = none → Q (.ref p) (upd H1 p (.tup (xs.drop 1).reverse))
theorem pe_rev0 {e : Expr} {te : TE} {k k0 : Nat} {p0 p1 p2 p3 pos : Pos} (he : PE X e te) : PE X (.Subscript e (.Slice none (some (.Constant (.int 0) k0 p0)) (some (.UnaryOp .USub (.Constant (.int 1) k p1) p2)) p3) pos) (tRev0 X.K te) := by
  refine pe_cut (te := te) he kn_no kn_int kn_neg fun pins s σ H Q x v sl vl vu vs I rel hs part1 part2 part3 ⟨a, xs, ex, hx, q⟩ => ?_
  subst ex
  cases rel
  obtain ⟨its, rv, p, fit⟩ := I.tuple hx
  have len := rv.length
  exact tail_any (ops := [.ref a, .ref sl]) p.typeIs (PyProof.Rows.slot_tuple_getitem.lookup) (getItem_tuple_rev0 p hs part1 part2 part3 (cut_laid I (o := .tup (xs.drop 1).reverse) ⟨by simp; omega, _, (rv.drop 1).reverse, IsTup.new _ _⟩ q) (by rw [List.size_toArray]; omega)) (by with_unfolding_all rfl)
end
end Men
namespace M
open PySem PySem.Spec PyProof.Rows L2
def rev0D : D → Option D
  | .tuple xs => some (.tuple (xs.drop 1).reverse)
  | _ => none
section
variable {X : Cx} {c : Cm} {W : WM}
theorem me_rev0 {e : Expr} {f : Rho → R D} {k k0 : Nat} {p0 p1 p2 p3 pos : Pos} (he : MB X c W e f) : ME X c W (.Subscript e (.Slice none (some (.Constant (.int 0) k0 p0)) (some (.UnaryOp .USub (.Constant (.int 1) k p1) p2)) p3) pos) (e1 rev0D f) :=
  PE.imp (Men.pe_rev0 he) fun σ H Qk ⟨G, ρ, ok, p⟩ => step ok p fun x G1 H1 v _ g1 r1 ok1 p1 => by
    cases x with
    | tuple xs =>
      obtain ⟨a, us, rfl, h1, q1, h2⟩ := r1.tuple ok1.s
      exact ⟨a, us, rfl, h1, newT ok1.s (q1.drop 1).rev rfl p1⟩
    | _ => exact p1.elim
end
end M

namespace M
open PySem PySem.Spec PyProof.Rows L2
/-- a comprehension's names, seen from within it -/
def relS (sc0 sc : Scope) : Scope := relabel sc { (default : Env) with scope := sc0 }
/-- a comprehension within a comprehension -/
theorem blkOk_in {X : Cx} {s : Shared} {H : Hp} {sc scope : Scope} {own : List (Str × Nat)} {C : Addr} {cl : List (Str × Addr)} {fp : List Addr} (N : List Str) (sc0 : Scope) (hN : X.N = N) (h0 : X.env.scope = sc0) (h : blkC N (relS sc0 sc) scope own = true) :
    BlkOk (X.blk s H sc (compEnvC sc cl C X.env) fp).N (X.blk s H sc (compEnvC sc cl C X.env) fp).env.scope scope own := by
  subst h0 hN
  exact blkOk_by h
end M

/-! tuples of ints of whose object it is known that it has no dict: t.index(x) -/
namespace M
open PySem PySem.Spec PyProof.Rows L2 HT
def NT (is : List Int) : D := .dict [(.bool true, .tuple (is.map .int))]
def wk : D → D
  | .dict [(.bool true, .tuple ds)] => .tuple ds
  | d => d
theorem SqN.t {K : PySem.W.Frag} {G : Hp} {a : Addr} {xs : List V} (h : SqN K G a xs) : SqT K G a xs := h.1
theorem Q.wk {K : PySem.W.Frag} {ns : Sc} {G : Hp} {v : V} {d : D} (q : Q K ns G v d) : Q K ns G v (M.wk d) := by
  unfold M.wk
  split
  · cases q with
    | ntp is h1 h2 => subst h2; exact .tup h1.1 QA.ints
    | obj j h1 h2 => cases h2
    | dk ks h1 h2 => cases ks <;> cases h2
    | dt ks h1 h2 => cases ks <;> cases h2
  · exact q
theorem B.wk {K : PySem.W.Frag} {ns : Sc} {G H : Hp} {v : V} {d : D} (q : B K ns G H v d) : B K ns G H v (M.wk d) := by
  rcases q with q | ⟨a, us, ds, e1', e2', e3', e4'⟩
  · exact .inl q.wk
  · subst e2'
    exact .inr ⟨a, us, ds, e1', rfl, e3', e4'⟩
theorem B.nt {K : PySem.W.Frag} {ns : Sc} {G H : Hp} {v : V} {ds : List D} (q : B K ns G H v (.dict [(.bool true, .tuple ds)])) : ∃ (a : Addr) (is : List Int), v = .ref a ∧ SqN K G a (is.map V.int) ∧ ds = is.map PyData.int := by
  rcases q with q | ⟨a, us, ds, _, e2', _⟩
  · cases q with
    | ntp is h1 h2 => exact ⟨_, is, rfl, h1, h2⟩
    | obj j h1 h2 => cases h2
    | dk ks h1 h2 => cases ks <;> cases h2
    | dt ks h1 h2 => cases ks <;> cases h2
  · cases e2'
def wkE (f : Rho → R D) : Rho → R D := fun ρ => (f ρ).bind fun x => .ok (wk x)
section
variable {X : Cx} {c : Cm} {W : WM}
theorem me_wk {e : Expr} {f : Rho → R D} (h : ME X c W e f) : ME X c W e (wkE f) := PE.imp h fun σ H Qk ⟨G, ρ, ok, p⟩ => ⟨G, ρ, ok, by
  unfold wkE at p
  cases e : f ρ with
  | ok a => rw [e] at p; exact fun G' H' v g q => p G' H' v g q.wk
  | rz z => rw [e] at p; exact p
  | bad => rw [e] at p; exact p⟩
theorem mb_wk {e : Expr} {f : Rho → R D} (h : MB X c W e f) : MB X c W e (wkE f) := PE.imp h fun σ H Qk ⟨G, ρ, ok, p⟩ => ⟨G, ρ, ok, by
  unfold wkE at p
  cases e : f ρ with
  | ok a => rw [e] at p; exact fun G' H' v g q => p G' H' v g q.wk
  | rz z => rw [e] at p; exact p
  | bad => rw [e] at p; exact p⟩
theorem nt_frz {o : Obj} {u : HO} (ps : Array Value) : HO.frz o u ≠ .tbl ps := fun z => nomatch z
/-- a new tuple, frozen with its object -/
theorem newN {K : PySem.W.Frag} {ns : Sc} {G H : Hp} {is : List Int} (s : Sub G H) {Qk : VK} (k : ∀ G' H' u, Gr G H G' H' → Q K ns G' u (NT is) → Qk u H') : ∀ (o : Obj), o.cls = .type "tuple" → o.dict = none → ∀ p, H p = none → Qk (.ref p) (upd H p (.frz o (.tup (is.map V.int)))) := fun o hc hd p hp =>
  k _ _ _ (Gr.new s hp nt_frz) (.ntp is ⟨.inl (.inr ⟨o, upd_same⟩), .inl ⟨o, _, upd_same, hc, hd⟩⟩ rfl)
/-- tuple(l), its object told -/
def rTupN (K : PySem.W.Frag) : List V → Hp → VK → Prop := fun xs H Q => ∃ p ys, xs = [.ref p] ∧ SqL K H p ys ∧ ∀ (o : Obj), o.cls = .type "tuple" → o.dict = none → ∀ l, H l = none → Q (.ref l) (upd H l (.frz o (.tup ys)))
theorem call_tupN : CallR X (.type "tuple") (rTupN X.K) := fun pins s σ H xs us Q I r h => by
  obtain ⟨p, ys, rfl, hq, k⟩ := h
  obtain ⟨u, rfl, ru⟩ := vals1 r
  cases ru
  obtain ⟨its, rv, pl, hz⟩ := I.list hq
  have hl := rv.length
  refine call_tuple_list pl.isList (fun h1 kp => ?_) (by rw [List.size_toArray, ← hl]; exact hz)
  have J : Inv X pins σ H { s with heap := h1 } := I.kept (t' := s.toks) kp
  refine ⟨.ref h1.objs.size, _, J.laid (t' := s.toks) (o := .frz { cls := .type "tuple", data := .seq its.toArray } (.tup ys)) (fun _ _ z => Heap.get?_push_of_some _ z) (Nat.le_refl _) ?_, rfl, k _ rfl rfl _ (J.hok.fresh (Nat.le_refl _))⟩
  exact ⟨Heap.get?_push_size _ rfl, hz, its, rv, IsTup.new _ _⟩
def tupN : List D → Option D
  | [.list xs] => (intsOf xs).map fun is => NT is
  | _ => none
theorem cad_tupN : CaD X c.ns (rTupN X.K) tupN := fun G H vs ds d Qk e s b k => by
  unfold tupN at e
  split at e
  · rename_i xs
    cases eb : intsOf xs with
    | none => rw [eb] at e; cases e
    | some bs =>
      rw [eb] at e
      cases e
      obtain rfl := ints_eq eb
      obtain ⟨v, ws, rfl, b1, b2⟩ := b.cons_inv
      obtain rfl := b2.nil_inv
      obtain ⟨a, us, rfl, h1, q1⟩ := b1.list s
      obtain rfl := q1.ints_inv
      exact ⟨a, _, rfl, SqL.of h1, newN s k⟩
  · cases e
/-- t[::-1], its object told -/
def tRevN (K : PySem.W.Frag) (te : TE) : TE := fun σ H Q => te σ H fun x H1 => ∃ a xs, x = .ref a ∧ SqT K H1 a xs ∧ ∀ (o : Obj), o.cls = .type "tuple" → o.dict = none → ∀ p, H1 p = none → Q (.ref p) (upd H1 p (.frz o (.tup xs.reverse)))
theorem pe_revN {e : Expr} {te : TE} {k : Nat} {p1 p2 p3 pos : Pos} (he : PE X e te) : PE X (.Subscript e (.Slice none none (some (.UnaryOp .USub (.Constant (.int 1) k p1) p2)) p3) pos) (tRevN X.K te) := by
  refine Men.pe_cut (te := te) he Men.kn_no Men.kn_no Men.kn_neg fun pins s σ H Q x v sl vl vu vs I rel hs part1 part2 part3 ⟨a, xs, ex, hx, q⟩ => ?_
  subst ex
  cases rel
  obtain ⟨its, rv, p, fit⟩ := I.tuple hx
  have len := rv.length
  exact tail_any (ops := [.ref a, .ref sl]) p.typeIs (PyProof.Rows.slot_tuple_getitem.lookup) (Men.getItem_tuple_rev p hs part1 part2 part3 (Men.cut_laid I (o := .frz { cls := .type "tuple", data := .seq its.toArray.toList.reverse.toArray } (.tup xs.reverse)) ⟨Heap.get?_push_size _ rfl, by simpa using fit, _, rv.reverse, IsTup.new _ _⟩ (q _ rfl rfl)) (by rw [List.size_toArray]; omega)) (by with_unfolding_all rfl)
def revN : D → Option D
  | .dict [(.bool true, .tuple ds)] => (intsOf ds.reverse).map fun is => NT is
  | .tuple ds => (intsOf ds.reverse).map fun is => NT is
  | _ => none
theorem me_revN {e : Expr} {f : Rho → R D} {k : Nat} {p1 p2 p3 pos : Pos} (he : MB X c W e f) : ME X c W (.Subscript e (.Slice none none (some (.UnaryOp .USub (.Constant (.int 1) k p1) p2)) p3) pos) (e1 revN f) :=
  PE.imp (pe_revN he) fun σ H Qk ⟨G, ρ, ok, p⟩ => step ok p fun x G1 H1 v _ g1 r1 ok1 p1 => by
    have key : ∀ ds, B X.K c.ns G1 H1 v (.tuple ds) → Post W (RelQ X.K c.ns) G1 H1 σ Qk (R.of ((intsOf ds.reverse).map fun is => NT is)) → ∃ a xs, v = .ref a ∧ SqT X.K H1 a xs ∧ ∀ (o : Obj), o.cls = .type "tuple" → o.dict = none → ∀ p, H1 p = none → Qk (.ref p) (upd H1 p (.frz o (.tup xs.reverse))) := fun ds r p1 => by
      obtain ⟨a, us, rfl, h1, q1, h2⟩ := r.tuple ok1.s
      cases eb : intsOf ds.reverse with
      | none => rw [eb] at p1; exact p1.elim
      | some bs =>
        rw [eb] at p1
        have q2 := q1.rev
        rw [ints_eq eb] at q2
        refine ⟨a, us, rfl, h1, ?_⟩
        rw [q2.ints_inv]
        exact newN ok1.s p1
    unfold revN at p1
    split at p1
    · exact key _ r1.wk p1
    · exact key _ r1 p1
    · exact p1.elim
/-- t.index(x) -/
def tBN (K : PySem.W.Frag) (r : V → List V → Hp → VK → Prop) (to : TE) (t : TA) : TE := fun σ H Q => to σ H fun x H1 => (∃ p, x = .ref p ∧ ((∃ o u, H1 p = some (.frz o u) ∧ o.cls = .type "tuple" ∧ o.dict = none) ∨ ∃ o, K.lookup p = some o ∧ o.cls = .type "tuple" ∧ o.dict = none)) ∧ t σ H1 fun xs H2 => r x xs H2 Q
theorem pe_bN {o e : Expr} {es : List Expr} {name : Str} {id : String} {r : V → List V → Hp → VK → Prop} {to : TE} {t : TA} {apos cpos : Pos} (pa : PlainAttrs "tuple") (slot : Slot "tuple" name id) (hty : typeOf (.builtin id) = pure (.type "method_descriptor")) (hm : MtR X id r) (ho : PE X o to) (ha : PA X (e :: es) t)
    (hbase : attributeBase o name X.env (eval o X.env) = eval o X.env := by rfl)
    (hfew : ((backTo cpos (starEach (e :: es) X.env)).all (fun x => !x.1) && (backToKw cpos (keywordEach [] X.env)).all (fun x => x.1.isSome) && decide ((e :: es).length + ([] : List Keyword).length + (if ([] : List Keyword).isEmpty then 0 else 1) < 30)) = true := by rfl)
    (hline : (apos.endLine == cpos.line) = true := by rfl) (hs : starEach (e :: es) X.env = (false, eval e X.env) :: starEach es X.env := by rfl) (hpl : (backTo cpos (starEach es X.env)).any (·.1) = false := by rfl) :
    PE X (.Call (.Attribute o name apos) (e :: es) [] cpos) (tBN X.K r to t) := ⟨fun pins s σ H Q I h => by
  refine wpAny_Call_method_late hbase hfew hline rfl (thn (ho.run pins s σ H _ I h) fun v s1 ⟨x, H1, I1, r1, ty, q1⟩ => ?_)
  have hT : s1.TypeIs v "tuple" ∧ ∀ a, v = .ref a → ∃ ob, s1.heap.get? a = some ob ∧ ob.dict = none := by
    obtain ⟨p, rfl, ⟨ob, u, hk, hc, hd⟩ | ⟨ob, hk, hc, hd⟩⟩ := ty
    · cases r1
      obtain ⟨hg, _⟩ := I1.hok p _ hk
      exact ⟨⟨ob, hg, hc⟩, fun a z => by cases z; exact ⟨ob, hg, hd⟩⟩
    · cases r1
      exact ⟨⟨ob, I1.kIn p ob hk, hc⟩, fun a z => by cases z; exact ⟨ob, I1.kIn p ob hk, hd⟩⟩
  refine ⟨"tuple", id, pa, slot, hty, hT.1, hT.2, ?_⟩
  have hA := ha.run cpos pins s1 σ H1 _ I1 q1
  rw [hs] at hA ⊢
  refine Calls.callWith_builtin (by show (false || (backTo cpos (starEach es X.env)).any (·.1)) = false; rw [hpl] <;> rfl) (Calls.evalArgs_plain (thn hA fun us s2 ⟨vs, H2, I2, r2, q2⟩ => ?_))
  exact hm pins s2 σ H2 x vs v us Q I2 r1 r2 q2⟩
def idxN (f g : Rho → R D) : Rho → R D := fun ρ => (f ρ).bind fun d => match d with
  | .dict [(.bool true, .tuple ds)] => (g ρ).bind fun x => R.of (idxL (.list ds) x)
  | _ => .bad
theorem me_idxN {E : Expr} {f g : Rho → R D} (h2 : PE X E (tBN X.K (rIndexT X.K) (tR X.K c W (RelB X.K c.ns) f) (tCons (tR X.K c W (RelB X.K c.ns) g) tNil))) : ME X c W E (idxN f g) :=
  PE.imp h2 fun σ H Qk ⟨G, ρ, ok, p⟩ => step ok p fun d G1 H1 v _ g1 r1 ok1 p1 => by
    split at p1
    · rename_i ds
      obtain ⟨a, is, rfl, h1, rfl⟩ := r1.nt
      have hs := SqN.same ok1.s.same h1
      refine ⟨⟨a, rfl, hs.2⟩, step ok1 p1 fun y G2 H2 w _ g2 r2 ok2 p2 => ?_⟩
      unfold idxL at p2
      dsimp only at p2
      by_cases hf : (flatD y && (is.map PyData.int).all flatD) = true
      · rw [if_pos hf] at p2
        cases ej : findI y (is.map .int) with
        | none => rw [ej] at p2; exact p2.elim
        | some j =>
          rw [ej] at p2
          obtain ⟨f1, f2, z, f3, f4, f5⟩ := idx_road (r2.q (Bool.and_eq_true_iff.mp hf).1) (QA.ints (is := is)) hf ej
          exact ⟨a, _, w, j, z, rfl, rfl, SqT.same ok2.s.same (SqT.same g2.g h1.1), f1, f2, f3, f4, f5, p2 G2 H2 _ (Gr.refl ok2.s) (.int _)⟩
      · rw [if_neg hf] at p2; exact p2.elim
    · exact p1.elim
end
end M

namespace M
open PySem PySem.Spec PyProof.Rows L2
/-! ### a, b, c, d = x, y, z, w -/
def sPar4 (i j k l : Nat) (f g h m : Rho → R Sl) : Rho → Out := fun ρ => (f ρ).out ρ fun s => (g ρ).out ρ fun t => (h ρ).out ρ fun u => (m ρ).out ρ fun w => .nx ((((ρ.set i s).set j t).set k u).set l w)
section
variable {X : Cx} {c : Cm} {W : WM}
theorem ms_par4 {i j k l : Nat} {tg a b d e : Expr} {f g h m : Rho → R Sl} {kk : Nat} {pt pos : Pos} (ha : MN X c W a f) (hb : MN X c W b g) (hd : MN X c W d h) (he : MN X c W e m) (hg : PG X tg (gTup X.K 4 (gCons (gName i) (gCons (gName j) (gCons (gName k) (gCons (gName l) gNil))))))
    (hs : swapsWithSole [tg] (.Tuple [a, b, d, e] kk pt) pos.line X.env = pure false := by rfl) (hw : swappedStores [tg] (.Tuple [a, b, d, e] kk pt) X.env = pure none := by rfl) (h1 : (assignEach [tg] X.env).map (·.2) = [assign tg X.env] := by rfl)
    (s1 : starEach [a, b, d, e] X.env = (false, eval a X.env) :: starEach [b, d, e] X.env := by rfl) (s2 : starEach [b, d, e] X.env = (false, eval b X.env) :: starEach [d, e] X.env := by rfl) (s3 : starEach [d, e] X.env = (false, eval d X.env) :: starEach [e] X.env := by rfl) (s4 : starEach [e] X.env = (false, eval e X.env) :: starEach [] X.env := by rfl) :
    MS X c W (.Assign [tg] (.Tuple [a, b, d, e] kk pt) pos) (sPar4 i j k l f g h m) :=
  PS.imp (ps_asg (pe_tup (pa_cons ha (pa_cons hb (pa_cons hd (pa_cons he pa_nil s4) s3) s2) s1)) hg hs hw h1) fun De σ H ⟨G, ρ, ok, p⟩ => stepSN ok p fun s G1 H1 v1 _ g1 r1 ok1 p1 => stepSN ok1 p1 fun t G2 H2 v2 _ g2 r2 ok2 p2 => stepSN ok2 p2 fun u G3 H3 v3 _ g3 r3 ok3 p3 => stepSN ok3 p3 fun w G4 H4 v4 _ g4 r4 ok4 p4 =>
    ⟨sz (by simp), fun q hq => ⟨q, [v1, v2, v3, v4], rfl, .inl (.inl upd_same), rfl, v1, _, rfl, v2, _, rfl, v3, _, rfl, v4, _, rfl, rfl, p4 G4 _ _ (Same.refl G4) (((((ok.new g1 i r1).new g2 j r2).new g3 k r3).new g4 l r4).gr (Gr.own ok4.s hq))⟩⟩
end
end M

/-! a < b and sorted of data that are alike: (int, list) -/
namespace M
open PySem PySem.Spec PyProof.Rows L2
/-! ### (int, list of ints) -/
def lx : List Int → List Int → Bool
  | [], [] => false
  | [], _ :: _ => true
  | _ :: _, [] => false
  | x :: xs, y :: ys => if x = y then lx xs ys else decide (x < y)
theorem lx_irr : ∀ xs : List Int, lx xs xs = false
  | [] => rfl
  | x :: xs => by rw [lx, if_pos rfl, lx_irr xs]
theorem lx_tri : ∀ xs ys : List Int, lx xs ys = false → lx ys xs = false → xs = ys
  | [], [], _, _ => rfl
  | [], _ :: _, h, _ => by cases h
  | _ :: _, [], _, h => by cases h
  | x :: xs, y :: ys, h1, h2 => by
    rw [lx] at h1 h2
    by_cases c : x = y
    · subst c
      rw [if_pos rfl] at h1 h2
      rw [lx_tri xs ys h1 h2]
    · rw [if_neg c] at h1
      rw [if_neg (fun z => c z.symm)] at h2
      have := of_decide_eq_false h1
      have := of_decide_eq_false h2
      omega
theorem lx_trans : ∀ xs ys zs : List Int, lx xs ys = true → lx ys zs = true → lx xs zs = true
  | [], [], _, h, _ => by cases h
  | [], _ :: _, [], _, h => by cases h
  | [], _ :: _, _ :: _, _, _ => rfl
  | _ :: _, [], _, h, _ => by cases h
  | _ :: _, _ :: _, [], _, h => by cases h
  | x :: xs, y :: ys, z :: zs, h1, h2 => by
    rw [lx] at h1 h2 ⊢
    by_cases c1 : x = y
    · rw [if_pos c1] at h1
      by_cases c2 : y = z
      · rw [if_pos c2] at h2
        rw [if_pos (c1.trans c2)]
        exact lx_trans xs ys zs h1 h2
      · rw [if_neg c2] at h2
        rw [if_neg (fun q => c2 (c1.symm.trans q)), c1]
        exact h2
    · rw [if_neg c1] at h1
      have a := of_decide_eq_true h1
      by_cases c2 : y = z
      · rw [if_neg (fun q => c1 (q.trans c2.symm)), ← c2]
        exact h1
      · rw [if_neg c2] at h2
        have b := of_decide_eq_true h2
        rw [if_neg (by omega)]
        exact decide_eq_true (by omega)
theorem lx_asym (xs ys : List Int) (h : lx xs ys = true) : lx ys xs = false := by
  cases e : lx ys xs with
  | false => rfl
  | true =>
    have := lx_trans _ _ _ h e
    rw [lx_irr] at this
    cases this
theorem lx_lt : ∀ xs ys : List Int, decide (xs < ys) = lx xs ys
  | [], [] => by simp [lx]
  | [], _ :: _ => by simp [lx]
  | _ :: _, [] => by simp [lx]
  | x :: xs, y :: ys => by
    rw [lx, ← lx_lt xs ys]
    by_cases c : x = y
    · subst c
      simp [List.cons_lt_cons_iff]
    · rw [if_neg c]
      simp [List.cons_lt_cons_iff, c]
def pD (z : Int × List Int) : D := .tuple [.int z.1, .list (z.2.map .int)]
def ltZ (z w : Int × List Int) : Bool := if z.1 = w.1 then lx z.2 w.2 else decide (z.1 < w.1)
theorem ltZ_irr (z : Int × List Int) : ltZ z z = false := by rw [ltZ, if_pos rfl, lx_irr]
theorem ltZ_trans {a b d : Int × List Int} (h1 : ltZ a b = true) (h2 : ltZ b d = true) : ltZ a d = true := by
  unfold ltZ at h1 h2 ⊢
  by_cases c1 : a.1 = b.1
  · rw [if_pos c1] at h1
    by_cases c2 : b.1 = d.1
    · rw [if_pos c2] at h2
      rw [if_pos (c1.trans c2)]
      exact lx_trans _ _ _ h1 h2
    · rw [if_neg c2] at h2
      rw [if_neg (fun q => c2 (c1.symm.trans q)), c1]
      exact h2
  · rw [if_neg c1] at h1
    have a' := of_decide_eq_true h1
    by_cases c2 : b.1 = d.1
    · rw [if_neg (fun q => c1 (q.trans c2.symm)), ← c2]
      exact h1
    · rw [if_neg c2] at h2
      have b' := of_decide_eq_true h2
      rw [if_neg (by omega)]
      exact decide_eq_true (by omega)
theorem ltZ_asym {a b : Int × List Int} (h : ltZ a b = true) : ltZ b a = false := by
  cases e : ltZ b a with
  | false => rfl
  | true =>
    have := ltZ_trans h e
    rw [ltZ_irr] at this
    cases this
theorem ltZ_tri {a b : Int × List Int} (h1 : ltZ a b = false) (h2 : ltZ b a = false) : a = b := by
  unfold ltZ at h1 h2
  by_cases c : a.1 = b.1
  · rw [if_pos c] at h1
    rw [if_pos c.symm] at h2
    exact Prod.ext c (lx_tri _ _ h1 h2)
  · rw [if_neg c] at h1
    rw [if_neg (fun q => c q.symm)] at h2
    have := of_decide_eq_false h1
    have := of_decide_eq_false h2
    omega
theorem alike_pD (z w : Int × List Int) : PySem.W.alike (pD z) (pD w) = true := by
  simp [pD, PySem.W.alike, PySem.W.alikeAll, PySem.W.alike_ints]
theorem lay_is (xs : List Int) : PyData.canLayAll0 (xs.map .int) = true := by
  induction xs with
  | nil => simp [PyData.canLayAll0]
  | cons x xs ih => simp [PyData.canLayAll0, PyData.canLay0, ih]
theorem shaped_pD (z : Int × List Int) : SeqAt.shaped (pD z) = true := by
  simp [SeqAt.shaped, pD, PyData.canLay0, PyData.canLayAll0, PyData.depth, PyData.depthAll, PySem.W.depth_ints, lay_is]
theorem eqv_is (xs ys : List Int) : PyData.eqvAll (xs.map .int) (ys.map .int) = decide (xs = ys) := by
  induction xs generalizing ys with
  | nil => cases ys <;> simp [PyData.eqvAll]
  | cons x xs ih =>
    cases ys with
    | nil => simp [PyData.eqvAll]
    | cons y ys =>
      simp only [List.map_cons, PyData.eqvAll, PyData.eqv, ih]
      by_cases c : x = y <;> simp [c]
theorem dataLt_pD (z w : Int × List Int) : PySem.W.dataLt (pD z) (pD w) = ltZ z w := by
  unfold pD ltZ
  rw [PySem.W.dataLt_pair (by rfl) (by simp [PySem.W.alike, PySem.W.alike_ints]), PySem.W.dataLt_list, PySem.W.dataLt_int]
  have e := PySem.W.dataLt_ints z.2 w.2
  unfold PySem.W.rowLt at e
  rw [e, lx_lt]
  simp only [PyData.eqv, eqv_is]
  by_cases c : z.1 = w.1
  · rw [if_pos c, if_pos (by simpa using c)]
    by_cases c2 : z.2 = w.2
    · rw [decide_eq_true c2, if_pos rfl, c2, lx_irr]
    · rw [decide_eq_false c2, if_neg (by decide)]
  · rw [if_neg c, if_neg (by simpa using c)]
def prP : D → Option (Int × List Int)
  | .tuple [.int a, .list xs] => (intsOf xs).map fun is => (a, is)
  | _ => none
theorem prP_eq {d : D} {z : Int × List Int} (h : prP d = some z) : d = pD z := by
  unfold prP at h
  split at h
  · rename_i a xs
    cases e : intsOf xs with
    | none => rw [e] at h; cases h
    | some is =>
      rw [e] at h
      cases h
      rw [ints_eq e]
      rfl
  · cases h
theorem prP_pD (z : Int × List Int) : prP (pD z) = some z := by
  simp [prP, pD, ints_map]
def rowsP : List D → Option (List (Int × List Int))
  | [] => some []
  | d :: ds => match prP d, rowsP ds with
    | some z, some zs => some (z :: zs)
    | _, _ => none
theorem rowsP_eq : ∀ {ds : List D} {zs : List (Int × List Int)}, rowsP ds = some zs → ds = zs.map pD
  | [], _, h => by cases h; rfl
  | d :: ds, zs, h => by
    unfold rowsP at h
    split at h
    · rename_i z zs' e1' e2'
      cases h
      rw [List.map_cons, ← prP_eq e1', ← rowsP_eq e2']
    · cases h
theorem rowsP_map (zs : List (Int × List Int)) : rowsP (zs.map pD) = some zs := by
  induction zs with
  | nil => rfl
  | cons z zs ih => rw [List.map_cons, rowsP, prP_pD, ih]
def insZ (x : Int × List Int) : List (Int × List Int) → List (Int × List Int)
  | [] => [x]
  | y :: l => if ltZ y x then y :: insZ x l else x :: y :: l
def sortZ : List (Int × List Int) → List (Int × List Int)
  | [] => []
  | x :: l => insZ x (sortZ l)
def leZ (z w : Int × List Int) : Bool := !ltZ w z
theorem insZ_perm (x : Int × List Int) : ∀ l, (insZ x l).Perm (x :: l)
  | [] => .refl _
  | y :: l => by
    rw [insZ]
    split
    · exact ((insZ_perm x l).cons y).trans (.swap x y l)
    · exact .refl _
theorem sortZ_perm : ∀ l, (sortZ l).Perm l
  | [] => .refl _
  | x :: l => (insZ_perm x (sortZ l)).trans ((sortZ_perm l).cons x)
theorem leZ_trans (a b d : Int × List Int) (h1 : leZ a b = true) (h2 : leZ b d = true) : leZ a d = true := by
  unfold leZ at *
  simp only [Bool.not_eq_true'] at *
  cases e : ltZ d a with
  | false => rfl
  | true =>
    cases e2 : ltZ a b with
    | true =>
      have := ltZ_trans e e2
      rw [h2] at this
      cases this
    | false =>
      have := ltZ_tri e2 h1
      subst this
      rw [h2] at e
      cases e
theorem leZ_total (a b : Int × List Int) : (leZ a b || leZ b a) = true := by
  unfold leZ
  cases e : ltZ a b with
  | true => rw [ltZ_asym e]; rfl
  | false => simp
theorem insZ_sorted (x : Int × List Int) : ∀ {l : List (Int × List Int)}, l.Pairwise (fun a b => leZ a b = true) → (insZ x l).Pairwise (fun a b => leZ a b = true)
  | [], _ => List.pairwise_singleton _ _
  | y :: l, h => by
    rw [List.pairwise_cons] at h
    rw [insZ]
    split
    · rename_i c
      rw [List.pairwise_cons]
      refine ⟨fun z hz => ?_, insZ_sorted x h.2⟩
      rcases List.mem_cons.mp ((insZ_perm x l).mem_iff.mp hz) with rfl | hz
      · unfold leZ
        rw [ltZ_asym c]
        rfl
      · exact h.1 z hz
    · rename_i c
      have hxy : leZ x y = true := by unfold leZ; simpa using c
      rw [List.pairwise_cons]
      refine ⟨fun z hz => ?_, List.pairwise_cons.mpr h⟩
      rcases List.mem_cons.mp hz with rfl | hz
      · exact hxy
      · exact leZ_trans _ _ _ hxy (h.1 z hz)
theorem sortZ_sorted : ∀ l, (sortZ l).Pairwise (fun a b => leZ a b = true)
  | [] => .nil
  | x :: l => insZ_sorted x (sortZ_sorted l)
theorem merge_sortZ (zs : List (Int × List Int)) : zs.mergeSort leZ = sortZ zs := by
  refine List.Perm.eq_of_pairwise (le := fun a b => leZ a b = true) (fun a b _ _ h1 h2 => ?_) (List.pairwise_mergeSort leZ_trans leZ_total zs) (sortZ_sorted zs) ((List.mergeSort_perm zs leZ).trans (sortZ_perm zs).symm)
  unfold leZ at h1 h2
  simp only [Bool.not_eq_true'] at h1 h2
  exact ltZ_tri h2 h1
section
variable {X : Cx} {c : Cm} {W : WM}
def rLtD (K : PySem.W.Frag) : R2 := fun x y H Q => ∃ d e, Dp K H x d ∧ Dp K H y e ∧ SeqAt.shaped d = true ∧ PySem.W.alike d e = true ∧ d ≠ .none ∧ Q (.bl (PySem.W.dataLt d e)) H
theorem op_ltD (hu : X.A.units + 65 < cLine) : OpR X (compareOp .Lt) (rLtD X.K) := fun pins s σ H x y v u Q I rx ry h => by
  obtain ⟨d, e, hd, he, sd, al, hn, q⟩ := h
  obtain ⟨as, r1⟩ := Dp.reads I d x v hd rx
  obtain ⟨bs, r2⟩ := Dp.reads I e y u he ry
  have hdp : d.depth ≤ 64 := by
    unfold SeqAt.shaped at sd
    have := (Bool.and_eq_true_iff.mp sd).2
    exact of_decide_eq_true this
  have R := PySem.W.rcLt_alike d e X.A s v u as bs r1 r2 al hn (by
    have := Nat.min_le_left d.depth e.depth
    omega)
  exact R X.prog X.w X.xe (EP X pins σ Q) ⟨.bl _, H, I, rfl, q⟩
def ltAD (x y : D) : Option Bool := match prP x, prP y with
  | some z, some w => some (ltZ z w)
  | _, _ => none
theorem cmd_ltA : CmD X c.ns (rLtD X.K) ltAD := fun G H v w x y d Qk e s b1 b2 k => by
  unfold ltAD at e
  split at e
  · rename_i z w' h1 h2
    cases e
    have e1' := prP_eq h1
    have e2' := prP_eq h2
    subst e1' e2'
    refine ⟨_, _, b1.dp s (shaped_pD z), b2.dp s (shaped_pD w'), shaped_pD z, alike_pD z w', (fun q => nomatch q), ?_⟩
    rw [dataLt_pD]
    exact k G H (Gr.refl s)
  · cases e
theorem units70 {k : Nat} {A : Around} (r : Room k A) : A.units + 70 < cLine := by have := r.un; omega
/-! ### sorted -/
theorem each_vals {H : Hp} {pins : List (Addr × Obj)} {σ : L2.St} {s : Shared} (I : Inv X pins σ H s) : ∀ {xs : List V} {ds : List D} {us : List Value}, DpAll X.K H xs ds → Vals xs us → PySem.W.EachIs (fun u (z : V × D) => RelV z.1 u) us (xs.zip ds) ∧ PySem.W.EachIs (fun u (z : V × D) => ∃ as, Reads s.heap u z.2 as) us (xs.zip ds) ∧ (xs.zip ds).map (·.2) = ds ∧ xs.length = ds.length
  | [], [], _, _, r => by cases r; exact ⟨.nil, .nil, rfl, rfl⟩
  | [], _ :: _, _, h, _ => by cases h
  | _ :: _, [], _, h, _ => by cases h
  | x :: xs, d :: ds, _, h, r => by
    cases h with
    | cons h1 h2 =>
      cases r with
      | cons r1 r2 =>
        obtain ⟨a, b, e, l⟩ := each_vals I h2 r2
        exact ⟨.cons r1 a, .cons (Dp.reads I d x _ h1 r1) b, by simp [e], by simp [l]⟩
theorem vals_each : ∀ {us : List Value} {zs : List (V × D)}, PySem.W.EachIs (fun u (z : V × D) => RelV z.1 u) us zs → Vals (zs.map (·.1)) us
  | _, _, .nil => .nil
  | _, _, .cons h t => .cons h (vals_each t)
def tupAll (ds : List D) : Bool := ds.all fun d => match d with
  | .tuple (_ :: _) => true
  | _ => false
def alikeB (ds : List D) : Bool := ds.all fun d => ds.all fun e => PySem.W.alike d e
def leP (x y : D) : Bool := !PySem.W.dataLt y x
def rSortP (K : PySem.W.Frag) : List V → Hp → VK → Prop := fun vs H Q => ∃ (a : Addr) (xs : List V) (ds : List D), vs = [V.ref a] ∧ SqL K H a xs ∧ DpAll K H xs ds ∧ alikeB ds = true ∧ tupAll ds = true ∧ (∀ d ∈ ds, SeqAt.shaped d = true) ∧
  ∀ p, H p = none → Q (.ref p) (upd H p (.lst (((xs.zip ds).mergeSort fun y z => leP y.2 z.2).map (·.1))))
theorem cr_sortP (hu : X.A.units + 70 < cLine) : CallR X (.builtin "sorted") (rSortP X.K) := fun pins s σ H vs us Q I r h => by
  obtain ⟨a, xs, ds, rfl, hs, hdp, hal, htu, hsh, q⟩ := h
  obtain ⟨its, rv, hl, hz⟩ := I.list hs
  obtain ⟨u, rfl, ru⟩ := vals1 r
  obtain rfl : u = Value.ref a := ru
  obtain ⟨e1', e2', e3', e4'⟩ := each_vals I hdp rv
  refine PySem.W.sorted_data (enc := fun z : V × D => z.2) hl.isList e1' e2' ?_ ?_ ?_ (fun z hzm => ?_) fun out hol hE => ?_
  · rw [e3']
    exact fun d hd e he => List.all_eq_true.mp (List.all_eq_true.mp hal d hd) e he
  · rw [e3']
    refine .inl fun d hd => ?_
    have := List.all_eq_true.mp htu d hd
    split at this
    · rename_i x r
      exact ⟨x, r, rfl⟩
    · cases this
  · rw [List.length_zip, ← e4', Nat.min_self]
    exact hz
  · have hd : z.2 ∈ ds := (List.of_mem_zip (a := z.1) (b := z.2) hzm).2
    have sd := hsh _ hd
    unfold SeqAt.shaped at sd
    have := of_decide_eq_true (Bool.and_eq_true_iff.mp sd).2
    show X.A.units + 2 + z.2.depth < cLine
    omega
  · have he : PySem.W.dataLe false (fun z : V × D => z.2) = fun y z => leP y.2 z.2 := by
      rw [PySem.W.dataLe_eq]
      rfl
    rw [he] at hE
    obtain ⟨n, hn⟩ := sortedAll_at s.heap its out.toArray
    refine ⟨.ref _, _, I.laid (t' := s.toks) (o := .lst (((xs.zip ds).mergeSort fun y z => leP y.2 z.2).map (·.1))) (fun b o e => sortedAll_old e) (Nat.le_succ _) ⟨?_, out, n, vals_each hE, hn⟩, rfl, q _ (I.hok.fresh (Nat.le_succ _))⟩
    rw [List.length_map, List.length_mergeSort, List.length_zip, ← e4', Nat.min_self]
    exact hz
def sortPD : List D → Option D
  | [.list ds] => (rowsP ds).map fun zs => .list ((sortZ zs).map pD)
  | _ => none
theorem QA.zipQ {K : PySem.W.Frag} {ns : Sc} {G : Hp} : ∀ {us : List V} {ds : List D}, QA K ns G us ds → us.length = ds.length ∧ (us.zip ds).map (·.2) = ds ∧ ∀ z ∈ us.zip ds, Q K ns G z.1 z.2
  | us, [], q => by cases q; exact ⟨rfl, rfl, fun z hz => by simp at hz⟩
  | us, d :: ds, q => by
    cases q with
    | cons q1 q2 =>
      obtain ⟨h1, h2, h3⟩ := QA.zipQ q2
      exact ⟨by simp [h1], by simp [h2], fun z hz => by
        rw [List.zip_cons_cons] at hz
        rcases List.mem_cons.mp hz with rfl | hz
        · exact q1
        · exact h3 z hz⟩
theorem QA.ofZip {K : PySem.W.Frag} {ns : Sc} {G : Hp} : ∀ {zs : List (V × D)}, (∀ z ∈ zs, Q K ns G z.1 z.2) → QA K ns G (zs.map (·.1)) (zs.map (·.2))
  | [], _ => .nil
  | z :: zs, h => .cons (h z (by simp)) (QA.ofZip fun y hy => h y (by simp [hy]))
theorem dpAll_of {K : PySem.W.Frag} {ns : Sc} {G H : Hp} (s : Same G H) : ∀ {us : List V} {ds : List D}, QA K ns G us ds → (∀ d ∈ ds, SeqAt.shaped d = true) → DpAll K H us ds
  | us, [], q, _ => by cases q; exact .nil
  | us, d :: ds, q, h => by
    cases q with
    | cons q1 q2 => exact .cons (Q.dp s d _ (SeqAt.canLay_of_shaped (h d (by simp))) q1) (dpAll_of s q2 fun e he => h e (by simp [he]))
theorem cad_sortP : CaD X c.ns (rSortP X.K) sortPD := fun G H vs ds d Qk e s b k => by
  unfold sortPD at e
  split at e
  · rename_i xs
    cases er : rowsP xs with
    | none => rw [er] at e; cases e
    | some zs =>
      rw [er] at e
      cases e
      have hxs := rowsP_eq er
      subst hxs
      obtain ⟨v, ws, rfl, b1, b2⟩ := b.cons_inv
      obtain rfl := b2.nil_inv
      obtain ⟨a, us, rfl, h1, q1⟩ := b1.list s
      have hsh : ∀ d ∈ zs.map pD, SeqAt.shaped d = true := fun d hd => by
        obtain ⟨z, _, rfl⟩ := List.mem_map.mp hd
        exact shaped_pD z
      have hal : alikeB (zs.map pD) = true := List.all_eq_true.mpr fun d hd => List.all_eq_true.mpr fun e he => by
        obtain ⟨z, _, rfl⟩ := List.mem_map.mp hd
        obtain ⟨w, _, rfl⟩ := List.mem_map.mp he
        exact alike_pD z w
      have htu : tupAll (zs.map pD) = true := List.all_eq_true.mpr fun d hd => by
        obtain ⟨z, _, rfl⟩ := List.mem_map.mp hd
        rfl
      obtain ⟨z1, z2, z3⟩ := q1.zipQ
      refine ⟨a, us, _, rfl, SqL.of h1, dpAll_of s.same q1 hsh, hal, htu, hsh, newL s (QA.ofZip fun z hz => z3 z (List.mem_mergeSort.mp hz)) ?_ k⟩
      have e : (((us.zip (zs.map pD)).mergeSort fun y z => leP y.2 z.2).map (·.2)) = (sortZ zs).map pD := by
        rw [List.map_mergeSort (s := leP) (fun a _ b _ => rfl), z2, ← merge_sortZ, List.map_mergeSort (s := leP) (fun a _ b _ => ?_)]
        unfold leZ leP
        rw [dataLt_pD]
      rw [e]
  · cases e
end
end M

namespace M
open PySem PySem.Spec PyProof.Rows L2 HT
/-! ### l[1::2] -/
def odds {α : Type} : List α → List α
  | _ :: y :: l => y :: odds l
  | _ => []
theorem odds_range {α : Type} : ∀ l : List α, ((List.range (l.length / 2)).filterMap fun (k : Nat) => l[1 + 2 * k]?) = odds l
  | [] => by simp [odds]
  | [_] => by simp [odds]
  | x :: y :: l => by
    have ih := odds_range l
    rw [show (x :: y :: l).length / 2 = l.length / 2 + 1 by simp [List.length_cons]; omega, List.range_succ_eq_map, List.filterMap_cons, List.filterMap_map]
    show y :: _ = y :: odds l
    rw [← ih]
    congr 1
theorem pick_odd (items : Array Value) : slicePick items (some 1) none (some 2) = (odds items.toList).toArray := by
  unfold slicePick
  have e : sliceBounds (some 1) none (some 2) items.size = (max 0 (min 1 (items.size : Int)), (items.size : Int), 2) := rfl
  rw [e]
  have e2 : sliceRange (max 0 (min 1 (items.size : Int))) (items.size : Int) 2 = (List.range (items.size / 2)).map fun (k : Nat) => 1 + 2 * k := by
    unfold sliceRange
    simp only [show (2 : Int) > 0 from by decide, if_true]
    by_cases h : (1 : Int) < (items.size : Int)
    · rw [show max 0 (min 1 (items.size : Int)) = 1 by omega, if_pos h, show (((items.size : Int) - 1 + 2 - 1) / 2).toNat = items.size / 2 by omega]
      apply List.map_congr_left
      intro k _
      omega
    · have hz : items.size / 2 = 0 := by omega
      rw [if_neg (by omega), hz]
      rfl
  show ((sliceRange (max 0 (min 1 (items.size : Int))) (items.size : Int) 2).filterMap (items[·]?)).toArray = _
  rw [e2, List.filterMap_map, ← odds_range, Array.length_toList]
  congr 1
  apply Men.fm_congr
  intro k _
  simp
theorem vals_odds : ∀ {xs : List V} {us : List Value}, Vals xs us → Vals (odds xs) (odds us)
  | _, _, .nil => .nil
  | _, _, .cons _ .nil => .nil
  | _, _, .cons _ (.cons r t) => .cons r (vals_odds t)
theorem QA.odds {K : PySem.W.Frag} {ns : Sc} {G : Hp} : ∀ {ds : List D} {vs : List V}, QA K ns G vs ds → QA K ns G (M.odds vs) (M.odds ds)
  | [], _, h => by cases h; exact .nil
  | [_], _, h => by
    cases h with
    | cons h1 h2 => cases h2; exact .nil
  | _ :: _ :: ds, _, h => by
    cases h with
    | cons h1 h2 =>
      cases h2 with
      | cons h3 h4 => exact .cons h3 (QA.odds h4)
theorem odds_len {α : Type} : ∀ l : List α, (odds l).length ≤ l.length
  | [] => Nat.le_refl _
  | [_] => Nat.zero_le _
  | _ :: _ :: l => by
    have := odds_len l
    simp [odds]
    omega
section
variable {X : Cx} {c : Cm} {W : WM}
def tOdd (K : PySem.W.Frag) (te : TE) : TE := fun σ H Q => te σ H fun x H1 => ∃ a xs, x = .ref a ∧ SqL K H1 a xs ∧ ∀ p, H1 p = none → Q (.ref p) (upd H1 p (.lst (odds xs)))
theorem pe_odd {e : Expr} {te : TE} {k k2 : Nat} {p1 p2 p3 pos : Pos} (he : PE X e te) : PE X (.Subscript e (.Slice (some (.Constant (.int 1) k p1)) none (some (.Constant (.int 2) k2 p2)) p3) pos) (tOdd X.K te) := by
  refine Men.pe_cut (te := te) he Men.kn_int Men.kn_no Men.kn_int fun pins s σ H Q x v sl vl vu vs I rel hs part1 part2 part3 ⟨a, xs, ex, hx, q⟩ => ?_
  subst ex
  cases rel
  obtain ⟨its, rv, p, fit⟩ := I.list hx
  have len := rv.length
  refine tail_any (ops := [.ref a, .ref sl]) p.isList.typeIs (PySem.slot_list_getitem.lookup) (wpAny_getItem_list_slice p.isList hs part1 part2 part3 (by decide) ?_ (by rw [List.size_toArray]; omega)) (by with_unfolding_all rfl)
  rw [pick_odd]
  exact Men.cut_laid I (o := .lst (odds xs)) ⟨Nat.le_trans (odds_len xs) fit, odds its, 0, vals_odds rv, Heap.get?_push_size _ rfl⟩ q
def oddD : D → Option D
  | .list xs => some (.list (odds xs))
  | _ => none
theorem me_odd {e : Expr} {f : Rho → R D} {k k2 : Nat} {p1 p2 p3 pos : Pos} (he : MB X c W e f) : ME X c W (.Subscript e (.Slice (some (.Constant (.int 1) k p1)) none (some (.Constant (.int 2) k2 p2)) p3) pos) (e1 oddD f) :=
  PE.imp (pe_odd he) fun σ H Qk ⟨G, ρ, ok, p⟩ => step ok p fun x G1 H1 v _ g1 r1 ok1 p1 => by
    cases x with
    | list xs =>
      obtain ⟨a, us, rfl, h1, q1⟩ := r1.list ok1.s
      exact ⟨a, us, rfl, SqL.of h1, newL ok1.s q1.odds rfl p1⟩
    | _ => exact p1.elim
end
end M

/-! defs that raise -/
namespace M
open PySem PySem.Spec PyProof.Rows L2
def wm (mg : Str → Option Value) (V : WX) : WM := fun z σ H => ∀ C, mg z = some (.ref C) → V (.ref C) none σ H
section
variable {X : Cx} {c : Cm} {V : WX}
theorem ms_raise {z : Str} {C : Addr} {e : Expr} {pos : Pos} (hc : X.calm = true) (tk : L2.Takes X V) (he : L2.PMk X e (fun _ H Q => Q (.ref C) none H)) (hm : X.mg z = some (.ref C)) : MS X c (wm X.mg V) (.Raise (some e) none pos) (fun ρ => .rz z ρ) :=
  PS.imp (L2.ps_raise hc tk he) fun De σ H ⟨G, ρ, ok, p⟩ => p G H σ (Same.refl G) ok C hm
theorem me_callX {k : Nat} {fa : Addr} {fd : FuncData} {ps : List Str} {x : Str} {p pos : Pos} {e : Expr} {es : List Expr} {f : List D → Out} {g : Rho → R (List D)} (F : FnOk X.prog X.w X.K X.mg X.base (L2.CX X.prog X.w) k fa fd ps (spM X.K c.ns X.mg f)) (tk : L2.Takes X V) (hr : Room k X.A) (hg : Gl X x) (hm : X.mg x = some (.ref fa)) (hk : PySem.W.keepIn X.K (.ref fa) = true) (hb : Binds X.K fd ps [])
    (ha : MA X c (wm X.mg V) (e :: es) g) (hdb : (x == ("__debug__" : Str)) = false := by decide) (he : starEach (e :: es) X.env = (false, eval e X.env) :: starEach es X.env := by rfl) (hpl : (backTo pos (starEach es X.env)).any (·.1) = false := by rfl) :
    ME X c (wm X.mg V) (.Call (.Name x p) (e :: es) [] pos) (call f g) :=
  PE.imp (L2.pe_callS F hr hg hm hk hb (fun σ => L2.passAt tk σ) ha hdb he hpl) fun σ H Qk ⟨G, ρ, ok, p⟩ => step ok p fun ds G1 H1 vs _ g1 r1 ok1 p1 => by
    refine ⟨G1, ds, ok1.s, r1, ?_⟩
    cases e : f ds with
    | rt x => rw [e] at p1; exact p1
    | rf xs =>
      rw [e] at p1
      exact fun G' H' a us g n h1 h2 q => p1 (upd G' a (.lst us)) H' _ (g.seal n h1 h2) (.lst upd_same (QA.mono (new_same h2) _ _ q))
    | rz z ρ' => rw [e] at p1; exact fun G' H' g C hC => p1 G' H' g C hC
    | _ => rw [e] at p1; exact p1.elim
theorem mn_callX {k : Nat} {fa : Addr} {fd : FuncData} {ps : List Str} {x : Str} {p pos : Pos} {e : Expr} {es : List Expr} {f : List D → Out} {g : Rho → R (List D)} (F : FnOk X.prog X.w X.K X.mg X.base (L2.CX X.prog X.w) k fa fd ps (spM X.K c.ns X.mg f)) (tk : L2.Takes X V) (hr : Room k X.A) (hg : Gl X x) (hm : X.mg x = some (.ref fa)) (hk : PySem.W.keepIn X.K (.ref fa) = true) (hb : Binds X.K fd ps [])
    (ha : MA X c (wm X.mg V) (e :: es) g) (hdb : (x == ("__debug__" : Str)) = false := by decide) (he : starEach (e :: es) X.env = (false, eval e X.env) :: starEach es X.env := by rfl) (hpl : (backTo pos (starEach es X.env)).any (·.1) = false := by rfl) :
    MN X c (wm X.mg V) (.Call (.Name x p) (e :: es) [] pos) (ncall f g) :=
  PE.imp (L2.pe_callS F hr hg hm hk hb (fun σ => L2.passAt tk σ) ha hdb he hpl) fun σ H Qk ⟨G, ρ, ok, p⟩ => stepN ok p fun ds G1 H1 vs _ g1 r1 ok1 p1 => by
    refine ⟨G1, ds, ok1.s, r1, ?_⟩
    cases e : f ds with
    | rt x => rw [e] at p1; exact fun G' H' v g q => p1 G' H' v g q
    | rf xs =>
      rw [e] at p1
      exact fun G' H' a us g n h1 h2 q => p1 G' H' _ g ⟨a, us, rfl, h1, h2, n, q⟩
    | rz z ρ' => rw [e] at p1; exact fun G' H' g C hC => p1 G' H' g C hC
    | _ => rw [e] at p1; exact p1.elim
end
section
variable {X : Cx} {c : Cm} {W : WM}
/-- a call out of which nothing is raised, whatever is wished -/
theorem me_call0 {k : Nat} {fa : Addr} {fd : FuncData} {ps : List Str} {x : Str} {p pos : Pos} {e : Expr} {es : List Expr} {f : List D → Out} {g : Rho → R (List D)} (F : FnOk X.prog X.w X.K X.mg X.base CX0 k fa fd ps (spM X.K c.ns X.mg f)) (hr : Room k X.A) (hg : Gl X x) (hm : X.mg x = some (.ref fa)) (hk : PySem.W.keepIn X.K (.ref fa) = true) (hb : Binds X.K fd ps [])
    (ha : MA X c W (e :: es) g) (hdb : (x == ("__debug__" : Str)) = false := by decide) (he : starEach (e :: es) X.env = (false, eval e X.env) :: starEach es X.env := by rfl) (hpl : (backTo pos (starEach es X.env)).any (·.1) = false := by rfl) :
    ME X c W (.Call (.Name x p) (e :: es) [] pos) (call f g) :=
  PE.imp (L2.pe_callS (E := fun _ _ _ _ => True) F hr hg hm hk hb (fun σ pins H s e s' I h => (show False from h).elim) ha hdb he hpl) fun σ H Qk ⟨G, ρ, ok, p⟩ => step ok p fun ds G1 H1 vs _ g1 r1 ok1 p1 => by
    refine ⟨G1, ds, ok1.s, r1, ?_⟩
    cases e : f ds with
    | rt x => rw [e] at p1; exact p1
    | rf xs =>
      rw [e] at p1
      exact fun G' H' a us g n h1 h2 q => p1 (upd G' a (.lst us)) H' _ (g.seal n h1 h2) (.lst upd_same (QA.mono (new_same h2) _ _ q))
    | rz z ρ' => exact fun _ _ _ _ _ => trivial
    | _ => rw [e] at p1; exact p1.elim
theorem mn_call0 {k : Nat} {fa : Addr} {fd : FuncData} {ps : List Str} {x : Str} {p pos : Pos} {e : Expr} {es : List Expr} {f : List D → Out} {g : Rho → R (List D)} (F : FnOk X.prog X.w X.K X.mg X.base CX0 k fa fd ps (spM X.K c.ns X.mg f)) (hr : Room k X.A) (hg : Gl X x) (hm : X.mg x = some (.ref fa)) (hk : PySem.W.keepIn X.K (.ref fa) = true) (hb : Binds X.K fd ps [])
    (ha : MA X c W (e :: es) g) (hdb : (x == ("__debug__" : Str)) = false := by decide) (he : starEach (e :: es) X.env = (false, eval e X.env) :: starEach es X.env := by rfl) (hpl : (backTo pos (starEach es X.env)).any (·.1) = false := by rfl) :
    MN X c W (.Call (.Name x p) (e :: es) [] pos) (ncall f g) :=
  PE.imp (L2.pe_callS (E := fun _ _ _ _ => True) F hr hg hm hk hb (fun σ pins H s e s' I h => (show False from h).elim) ha hdb he hpl) fun σ H Qk ⟨G, ρ, ok, p⟩ => stepN ok p fun ds G1 H1 vs _ g1 r1 ok1 p1 => by
    refine ⟨G1, ds, ok1.s, r1, ?_⟩
    cases e : f ds with
    | rt x => rw [e] at p1; exact fun G' H' v g q => p1 G' H' v g q
    | rf xs =>
      rw [e] at p1
      exact fun G' H' a us g n h1 h2 q => p1 G' H' _ g ⟨a, us, rfl, h1, h2, n, q⟩
    | rz z ρ' => exact fun _ _ _ _ _ => trivial
    | _ => rw [e] at p1; exact p1.elim
theorem mss_nox {b : List Stmt} {f : Rho → Out} (h : MSs X.nox c W b f) : MSs X c W b f := PSs.nox h
end
/-- a def that may raise -/
theorem fnOkX {P : Program} {w : World} {K : PySem.W.Frag} {mg : Str → Option Value} {base : Heap} {x qual : Str} {st : Stmt} {f : Addr} {fd : FuncData} {N ps : List Str} {k : Nat} {ns : Sc} {body : Rho → Out} (F : Fun K x qual st f fd) (S : FnScope N ps (defScope st))
    (hb : ∀ (cdv : Value) (A : Around) (outer : List Env) (s : Shared) (H : Hp) (E : XK) (c : Cm), c.ns = ns → Room k (A.deeper (envOfC qual (defScope st) s.heap.objs.size f cdv)) → MSs (cxOf (L2.CX P w) P w K mg base N qual (defScope st) f cdv A outer s H E) c (wm mg fun cls d _ H' => E cls d H') (defBody st) body) :
    FnOk P w K mg base (L2.CX P w) (k + 1) f fd ps (spM K ns mg (fnM ps.length N.length body)) := by
  refine F.okX S (fun vs H Qk E h => ?_) (fun cdv A outer s H vs Qk E hr h => ?_)
  · obtain ⟨G, ds, s, q, h⟩ := h
    unfold fnM at h
    by_cases hl : ds.length = ps.length
    · rw [q.length, hl]
    · rw [if_neg hl] at h; exact h.elim
  · obtain ⟨G, ds, s', q, h⟩ := h
    refine ⟨_, hb cdv A outer s H E ⟨ns, G, H⟩ rfl hr, G, _, start_ok s' q, ?_⟩
    unfold fnM at h
    by_cases hl : ds.length = ps.length
    · rw [if_pos hl] at h
      cases e : body (ds.map .d ++ List.replicate (N.length - ds.length) .no) with
      | nx ρ =>
        rw [e] at h
        exact fun G' H' σ s ok => h G' H' _ ok.e .non
      | rt x => rw [e] at h; exact fun G' H' v g q => h G' H' v g q
      | rf x => rw [e] at h; exact fun G' H' a us g n h1 h2 q => h G' H' a us g n h1 h2 q
      | rz z ρ => rw [e] at h; exact fun G' H' σ s ok C hC => h G' H' ok.e C hC
      | bk ρ => rw [e] at h; exact h.elim
      | ct ρ => rw [e] at h; exact h.elim
      | bad => rw [e] at h; exact h.elim
    · rw [if_neg hl] at h; exact h.elim
end M

/-! the refusal that a def got, its class told -/
namespace M
open PySem PySem.Spec PyProof.Rows L2
section
variable {X : Cx}
/-- isinstance(e, c) where e's object is pinned -/
theorem call_isP {a D : Addr} {oe : Obj} (hp : (a, oe) ∈ X.pn) (C : ExcC X.K D) (hz : Zc (.ref D) none oe) (hf : ∃ vs, oe.data = .fields vs) : CallR X (.builtin "isinstance") (rIsE X.K D a) := fun pins s σ H xs us Q I r h => by
  obtain ⟨cc, cv, b, rfl, hcv, e, q⟩ := h
  obtain ⟨u1, u2, rfl, ra, rc⟩ := Vals.two r
  cases ra
  obtain rfl := hcv _ rc
  have hget := (I.pin (a, oe) (List.mem_append_left _ hp)).1
  obtain ⟨vs, hv⟩ := hf
  have J : PySem.W.InstAt s.heap a oe D none := by
    obtain ⟨oc, od, oda, osl⟩ := oe
    have h1 : oc = .ref D := hz.1
    have h2 : od = none := hz.2
    have h3 : oda = .fields vs := hv
    subst h1 h2 h3
    exact ⟨hget, rfl, rfl, trivial⟩
  exact PySem.W.kia_one (PySem.W.handS_kitx_exc C.hg C.hk C.hs C.hd C.ha C.hn C.ht C.hm) I.kIn J e (fun z => nomatch z) fun tk => ⟨.bl b, H, I.kept (t' := tk) fun _ _ z => z, rfl, q⟩
/-- l.count(x), flat -/
def rCountF (K : PySem.W.Frag) : V → List V → Hp → VK → Prop := fun x xs H Q => ∃ (a : Addr) (ys : List V) (y : V), x = V.ref a ∧ xs = [y] ∧ SqL K H a ys ∧ flatV y = true ∧ ys.all flatV = true ∧ Q (.int ((ys.filter fun z => eqV z y).length : Nat)) H
theorem count_eq {y : V} : ∀ {ys : List V} {us : List Value}, Vals ys us → ys.all flatV = true → us.countP (eqU y) = (ys.filter fun z => eqV z y).length
  | _, _, .nil, _ => rfl
  | z :: ys, u :: us, .cons r t, f => by
    rw [List.all_cons, Bool.and_eq_true] at f
    have ih := count_eq (y := y) t f.2
    rw [List.countP_cons, List.filter_cons, ih, eqU_of r f.1]
    cases eqV z y <;> simp
theorem mt_countF : MtR X "list.count" (rCountF X.K) := fun pins s σ H x xs v us Q I rx rxs h => by
  obtain ⟨a, ys, y, rfl, rfl, hs, fy, fys, q⟩ := h
  cases rx
  obtain ⟨u, rfl, ru⟩ := Vals.one rxs
  obtain ⟨its, rv, ⟨⟨cls, dd, data, sl⟩, n, ho, hc, hdn, hd⟩, hlen⟩ := I.list hs
  simp only at hc hd
  subst hc hd
  refine call_meets PySem.F.slot_list_count ⟨_, ho, rfl⟩ PySem.F.entry_list_count (PySem.F.args_list_count_2 _ _) (SeqAt.list_countAt a its.toArray n dd sl u (eqU y)) ⟨ho, fun w hw => mem_eqAt ru fy rv fys w (by simpa using hw), ?_⟩
  have ec := count_eq (y := y) rv fys
  refine ⟨.int ((ys.filter fun z => eqV z y).length : Nat), H, I.tok _, ⟨s.toks, ?_⟩, q⟩
  show Value.int ((its.toArray.toList.countP (eqU y) : Nat) : Int) s.toks = Value.int (((ys.filter fun z => eqV z y).length : Nat) : Int) s.toks
  rw [← ec]
end
/-- the names, and what is told of each -/
def kindN : List Str := ["NoBack", "NoNumber", "NoPlate", "NoRow", "NoText", "NoWheels"]
def kindT : List Str := ["no back", "no number", "no plate", "no row", "no text", "no wheels"]
/-- the class at D is the j-th of the six -/
structure ClsJ (K : PySem.W.Frag) (mg : Str → Option Value) (D : Addr) (j : Nat) : Prop where
  c : ExcC K D
  six : ∀ i, i < 6 → ∃ C, mg (kindN.getD i "") = some (.ref C) ∧ PySem.W.kitOne K (.ref D) (.ref C) = some (decide (i = j))
  ve : PySem.W.kitOne K (.ref D) (.type "ValueError") = some true
  lt : j < 6
theorem isiR {K : PySem.W.Frag} {D a C : Addr} {σ : L2.St} {H : Hp} {Q : VK} {b : Bool} (h0 : σ[0]? = some (some (.ref a))) (hk : PySem.W.kitOne K (.ref D) (.ref C) = some b) (q : Q (.bl b) H) : tCB (rIsE K D a) (tCons (tVar 0) (tCons (tC (V.ref C)) tNil)) σ H Q :=
  ⟨.ref a, h0, .ref C, .ref C, b, rfl, fun u r => r, hk, q⟩
theorem bt_ValueError : bootBuiltins "ValueError" = some (.type "ValueError") := by decide +kernel
def strC (x : Str) (p : Pos) : Expr := .Constant (.str x) 0 p
section
variable {X : Cx} {a D : Addr} {oe : Obj} {j : Nat}
theorem pe_isJ (hp : (a, oe) ∈ X.pn) (J : ClsJ X.K X.mg D j) (hz : Zc (.ref D) none oe) (hf : ∃ vs, oe.data = .fields vs) {p r s q : Pos} (h0 : PE X (.Name "kept" q) (tVar 0)) {C : Addr} {x : Str} (hg : X.mg x = some (.ref C)) (gi : Gl X "isinstance") (zi : X.mg "isinstance" = none) (gx : Gl X x) (hd : (x == ("__debug__" : Str)) = false)
    (he : starEach [.Name "kept" q, .Name x r] X.env = (false, eval (.Name "kept" q) X.env) :: starEach [.Name x r] X.env := by rfl) (hpl : (backTo s (starEach [.Name x r] X.env)).any (·.1) = false := by rfl) (h2 : starEach [.Name x r] X.env = (false, eval (.Name x r) X.env) :: starEach [] X.env := by rfl) :
    PE X (.Call (.Name "isinstance" p) [.Name "kept" q, .Name x r] [] s) (tCB (rIsE X.K D a) (tCons (tVar 0) (tCons (tC (V.ref C)) tNil))) :=
  pe_callB (call_isP hp J.c hz hf) gi zi bt_isinstance (pa_cons h0 (pa_cons (pe_glob (v := .ref C) gx hg rfl hd) pa_nil h2) he) (by decide) (by decide) he hpl
/-- what is left of _law_class's reading: the slots kept, kinds -/
theorem class_read {K : PySem.W.Frag} {mg : Str → Option Value} (J : ClsJ K mg D j) {C0 C1 C2 C3 C4 C5 : Addr} (g0 : mg "NoBack" = some (.ref C0)) (g1 : mg "NoNumber" = some (.ref C1)) (g2 : mg "NoPlate" = some (.ref C2)) (g3 : mg "NoRow" = some (.ref C3)) (g4 : mg "NoText" = some (.ref C4)) (g5 : mg "NoWheels" = some (.ref C5)) :
    PySem.W.kitOne K (.ref D) (.ref C0) = some (decide (0 = j)) ∧ PySem.W.kitOne K (.ref D) (.ref C1) = some (decide (1 = j)) ∧ PySem.W.kitOne K (.ref D) (.ref C2) = some (decide (2 = j)) ∧ PySem.W.kitOne K (.ref D) (.ref C3) = some (decide (3 = j)) ∧ PySem.W.kitOne K (.ref D) (.ref C4) = some (decide (4 = j)) ∧ PySem.W.kitOne K (.ref D) (.ref C5) = some (decide (5 = j)) := by
  have key : ∀ i, i < 6 → ∀ C, mg (kindN.getD i "") = some (.ref C) → PySem.W.kitOne K (.ref D) (.ref C) = some (decide (i = j)) := fun i hi C hC => by
    obtain ⟨C', h1, h2⟩ := J.six i hi
    rw [h1] at hC
    cases hC
    exact h2
  exact ⟨key 0 (by decide) C0 g0, key 1 (by decide) C1 g1, key 2 (by decide) C2 g2, key 3 (by decide) C3 g3, key 4 (by decide) C4 g4, key 5 (by decide) C5 g5⟩
def kindsV (j : Nat) : List V := [.bl (decide (0 = j)), .bl (decide (1 = j)), .bl (decide (2 = j)), .bl (decide (3 = j)), .bl (decide (4 = j)), .bl (decide (5 = j))]
theorem kinds_facts (h : j < 6) : (kindsV j).all flatV = true ∧ ((kindsV j).filter fun z => eqV z (.bl true)).length = 1 ∧ (kindsV j)[j]? = some (.bl true) ∧ ∀ (m : Nat) (z : V), m < j → (kindsV j)[m]? = some z → eqV z (.bl true) = false := by
  have : j = 0 ∨ j = 1 ∨ j = 2 ∨ j = 3 ∨ j = 4 ∨ j = 5 := by omega
  rcases this with rfl | rfl | rfl | rfl | rfl | rfl <;> refine ⟨by decide, by decide, by decide, fun m z hm hz => ?_⟩
  · omega
  all_goals (
    have hm' : m = 0 ∨ m = 1 ∨ m = 2 ∨ m = 3 ∨ m = 4 := by omega
    rcases hm' with rfl | rfl | rfl | rfl | rfl <;> first | omega | (simp [kindsV] at hz; subst hz; rfl))
end
end M

/-! a def called within an except suite, its promise told of the very exception -/
namespace M
open PySem PySem.Spec PyProof.Rows L2
theorem run_ofP {CX : CXT} {P : Program} {w : World} {K : PySem.W.Frag} {mg : Str → Option Value} {base : Heap} {k : Nat} {f : Addr} {name qual : Str} {params : Arguments} {body : List Stmt} {scope : Scope} {dV kV doc pm cdv ct oc : Value} {an od : Option Addr} {osl : Array (Option Value)} {N ps : List Str}
    (hlk : K.lookup f = some ⟨oc, od, .func (PySem.W.fnOf name qual params body scope dV kV doc pm an cdv ct), osl⟩) (hcode : PySem.W.codeIn K cdv qual = true) (S : FnScope N ps scope) {A : Around} {outer : List Env} {s : Shared} {H : Hp} {args : Args} {us : List Value} {vs : List V} {Q : VK} {E : XK} {p : Addr × Obj}
    (hroom : L2H.RoomH (k + 1) A) (hpin : L2H.PinOk outer H s p) (e0 : Env0 P w K mg base A outer s H) (hbind : BindsTo s (PySem.W.fnOf name qual params body scope dV kV doc pm an cdv ct) args (ps.zip us)) (rv : Vals vs us) (hlen : vs.length = ps.length)
    (hbody : L2H.RoomH k (A.deeper (envOfC qual scope s.heap.objs.size f cdv)) → ∃ t, PSs (L2H.cxH CX P w K mg base N qual scope f cdv A outer s H E p) body t ∧ t { nx := fun _ H' => Q .non H', rt := Q } (L2.start N vs) H) :
    codeAny (model P w) A (.call (.ref f) args) (CR CX outer P w H s Q E) s := by
  have kin : K.In s.heap := e0.mod.kin.keeps fun b o z => (e0.bs b o z).1
  have nl : s.heap.NoLimit := e0.mod.nolimit.keeps fun b o z => (e0.bs b o z).1
  have kinds : ∀ y ∈ ps.zip us, scope.names.lookup y.1 = some .local ∨ (scope.names.lookup y.1 = some .cell ∧ ((cellsFrom (s.heap.objs.size + 1) scope.names []).lookup y.1).isSome = true) := fun ⟨n, v⟩ hy =>
    (S.par n (List.of_mem_zip hy).1).elim .inl fun q => .inr ⟨q, PySem.W.cellsFrom_some _ _ _ (.inl q)⟩
  refine codeAny_call_function hroom.depth (kin _ _ hlk) rfl S.co S.gen rfl (PySem.W.codeRec_of kin hcode) (hbind _ _ _ _ (wpAny_newFunctionEnv_cells S.kind kinds fun env he s1 x => ?_))
  subst he
  obtain ⟨t, ht, hq⟩ := hbody (hroom.deeper _)
  refine ⟨nl.keeps x.toInCall.keep, codeAny_func (wpAny_mono (ht.run [] s1 _ H _ (L2H.inv_startH S hpin e0 hlen rv x) hq) (fun fl s2 h2 => ?_) fun _ _ z => z)⟩
  cases fl with
  | ret u =>
    obtain ⟨v, σ2, H2, J, rel, hQ⟩ := h2
    exact ⟨v, H2, J.os, J.bare, J.base, J.hok, rel, hQ⟩
  | next =>
    obtain ⟨σ2, H2, J, hQ⟩ := h2
    exact ⟨V.non, H2, J.os, J.bare, J.base, J.hok, rfl, hQ⟩
  | brk => exact h2.choose_spec.choose_spec.2.elim
  | cont => exact h2.choose_spec.choose_spec.2.elim
/-- g(e), e in slot i the exception that the suite holds -/
theorem pe_pinned {X : Cx} {a f : Addr} {oe : Obj} {k i : Nat} {x y name qual : Str} {params : Arguments} {body : List Stmt} {scope : Scope} {dV kV doc pm cdv ct oc : Value} {an od : Option Addr} {osl : Array (Option Value)} {N : List Str} {n : Str} {p q pos : Pos} {R : VK → Hp → Prop}
    (hp : (a, oe) ∈ X.pn) (hroom : L2H.RoomH (k + 1) X.A) (hg : Gl X x) (hm : X.mg x = some (.ref f)) (hk : PySem.W.keepIn X.K (.ref f) = true) (hlk : X.K.lookup f = some ⟨oc, od, .func (PySem.W.fnOf name qual params body scope dV kV doc pm an cdv ct), osl⟩) (hcode : PySem.W.codeIn X.K cdv qual = true) (S : FnScope N [n] scope)
    (hb : L2.Binds X.K (PySem.W.fnOf name qual params body scope dV kV doc pm an cdv ct) [n] []) (he : PE X (.Name y q) (tVar i))
    (hbody : ∀ (s : Shared) (H : Hp) (Q : VK), R Q H → L2H.RoomH k (X.A.deeper (envOfC qual scope s.heap.objs.size f cdv)) → ∃ t, PSs (L2H.cxH CX0 X.prog X.w X.K X.mg X.base N qual scope f cdv X.A X.stack s H E0 (a, oe)) body t ∧ t { nx := fun _ H' => Q .non H', rt := Q } (L2.start N [.ref a]) H)
    (hdb : (x == ("__debug__" : Str)) = false := by decide) (h1 : starEach [.Name y q] X.env = (false, eval (.Name y q) X.env) :: starEach [] X.env := by rfl) (hpl : (backTo pos (starEach [] X.env)).any (·.1) = false := by rfl) :
    PE X (.Call (.Name x p) [.Name y q] [] pos) (fun σ H Q => σ[i]? = some (some (.ref a)) ∧ R Q H) := ⟨fun pins s σ H Q I h => by
  obtain ⟨h0, hR⟩ := h
  have ha : PA X [.Name y q] (tCons (tVar i) tNil) := pa_cons he pa_nil h1
  refine wpAny_Call_Name_kw (ld_glob I hg hm ?_ hdb)
  refine PySem.W.callWith_K (h₀ := X.base) I.ok.mod.kin hk (thn (ha.run pos pins s σ H (fun vs H1 => vs = [V.ref a] ∧ H1 = H) I ⟨.ref a, h0, rfl, rfl⟩) fun us s1 ⟨vs, H1, I1, r, ev, eH⟩ => ⟨I1.kIn, ?_⟩) h1 hpl
  subst ev eH
  obtain ⟨u, rfl, ru⟩ := Vals.one r
  cases ru
  have P1 := I1.pin (a, oe) (List.mem_append_left _ hp)
  have hpin : L2H.PinOk X.stack H1 s1 (a, oe) := ⟨P1.1, P1.2.1, fun hx => (List.mem_cons.mp (I1.stkSub a hx)).elim P1.2.2.1 P1.2.2.2.1, P1.2.2.2.2⟩
  have b := hb s1 [.ref a] I1.kIn rfl
  refine wpAny_call (codeAny_mono (run_ofP (CX := CX0) (E := E0) (Q := Q) (vs := [V.ref a]) (us := [Value.ref a]) hlk hcode S hroom hpin I1.env0 b (.cons rfl .nil) rfl (hbody s1 H1 Q hR)) fun r s' hq => ?_)
  cases r with
  | error e => exact (show False from hq).elim
  | ok fl =>
    cases fl with
    | ret u => exact I1.after hq
    | next => exact hq.elim
    | brk => exact hq.elim
    | cont => exact hq.elim⟩
end M

/-! x(lambda: ..), the heap behind the lambda told -/
namespace M
open PySem PySem.Spec PyProof.Rows L2 LamX
/-- the heap behind a lambda that was made: as it was, or its code object in the maker's table -/
theorem among_line {pos p' : Pos} {c cv : Value} (l : List Value) (h : TriplesOk l) (hc : codeAmong p' (l ++ [rawInt pos.line, rawInt pos.col, c]) = some cv) : codeAmong p' l = some cv ∨ (cv = c ∧ p'.line = pos.line) :=
  (NdefX.among_app2 l h hc).imp_right fun z => ⟨z.1, z.2.1.symm⟩
def Grow (H H1 : Hp) (P : Addr) (q : Str) : Prop := H1 = H ∨ ∃ ps more c', H P = some (.tbl ps) ∧ H c' = none ∧ H1 = upd (upd H P (.tbl (ps ++ more))) c' (CodeO c' q) ∧ TabQ H1 P
theorem Grow.ext {H H1 : Hp} {P : Addr} {q : Str} (g : Grow H H1 P q) : ExtN H H1 := by
  rcases g with rfl | ⟨ps, more, c', h1, h2, rfl, _⟩
  · exact ExtN.refl _
  · exact fun b o e n => by
      have nb : b ≠ P := fun z => n ps (Option.some.inj (e.symm.trans (z ▸ h1)))
      rw [upd_ne (ne_of_none e h2), upd_ne nb]
      exact e
theorem Grow.tab {H H1 : Hp} {P P' : Addr} {q : Str} (g : Grow H H1 P q) (t : TabQ H P') : TabQ H1 P' := by
  have ge := g.ext
  rcases g with rfl | ⟨ps, more, c', h1, h2, e, h3⟩
  · exact t
  · by_cases hP : P' = P
    · rw [hP]; exact h3
    · obtain ⟨qs, t1, t2, t3⟩ := t
      refine ⟨qs, ?_, t2, fun pos cv hc => ?_⟩
      · rw [e, upd_ne (ne_of_none t1 h2), upd_ne hP]
        exact t1
      · obtain ⟨d, d1, d2⟩ := t3 pos cv hc
        exact ⟨d, d1, ge _ _ d2 codeO_ne⟩
section
variable {X : Cx} {pins : List (Addr × Obj)} {σ : L2.St} {H : Hp} {s : Shared}
theorem lam_made {c P : Addr} {params : Arguments} {body : Expr} {scope : Scope} {pos : Pos} {E : Value → Shared → Prop} {Q : Value → Shared → Prop} (I : Inv X pins σ H s) (TB : TabB X.base X.mg c P) (hcode : X.env.code = .ref c) (hT : TabQ H P) (hqo : qof pos = X.env.qual ++ "<lambda>")
    (hdef : defaultsOf params X.env = ([], [])) (hfree : ∀ y ∈ scope.names, y.2 = .free → ∃ c, X.env.cells.lookup y.1 = some c)
    (h : ∀ (f c' : Addr) (pm ctv : Value) (H1 : Hp) (s' : Shared), Inv X pins σ H1 s' → Grow H H1 P (X.env.qual ++ "<lambda>") →
      s'.heap.get? f = some (PySem.W.kla_obj "<lambda>" (X.env.qual ++ "<lambda>") params body scope (cloFrom X.env.cells scope.names []) pm c' ctv) → H1 f = none → f ∉ frs X.stack → H1 c' = some (CodeO c' (X.env.qual ++ "<lambda>")) → Q (.ref f) s') :
    wpAny (model X.prog X.w) X.A (eval (.Lambda params body scope pos) X.env) Q E s := by
  obtain ⟨ps, hP, ht, ha⟩ := hT
  have outF : ∀ f, s.heap.objs.size ≤ f → f ∉ frs X.stack := fun f old m => (List.mem_cons.mp (I.stkSub f m)).elim (fun e => Nat.not_lt.mpr old (e ▸ I.lt)) (I.nofs old)
  have bP := TB.bm.keeps I.bk
  have atP : s.heap.get? P = some { cls := .none, data := .fields ps } := I.hok P _ hP
  refine PySem.W.kla_eval hdef ?_
  cases hc : codeAmong pos ps.toList with
  | some cv =>
    obtain ⟨c', e, hco⟩ := ha pos cv hc
    rw [hqo] at hco
    subst e
    refine PySem.W.kla_makeFunctionHit (mg := X.mg) (c := c) (P := P) (ps := ps) (closure_ok hfree) I.ok.glob (I.mod.glob.keeps I.bk) hcode (TB.code.keeps I.bk) atP ht hc bP fun ctv h' tk hx hsz => ?_
    exact h h'.objs.size c' ((X.mg "__name__").getD .none) ctv H _ (I.kept (t' := tk) fun b o e => Heap.get?_push_of_some _ (hx b o e)) (.inl rfl) (Heap.get?_push_size _ rfl) (I.hok.fresh hsz) (outF _ hsz) hco
  | none =>
    refine PySem.W.kla_makeFunction (mg := X.mg) (c := c) (P := P) (ps := ps) (closure_ok hfree) I.ok.glob (I.mod.glob.keeps I.bk) hcode (TB.code.keeps I.bk) atP ht hc TB.gP bP fun c' ctv h' tk hx hge hlt hrec htb => ?_
    have nC : H c' = none := I.hok.fresh hge
    have hsz := Nat.le_trans hge (Nat.le_of_lt hlt)
    obtain ⟨c2, oc, vs, t, same, hoc, hd, hv⟩ := hrec
    obtain rfl : c' = c2 := Value.ref.inj same
    have J := inv_table (t' := tk) (q := X.env.qual ++ "<lambda>") (more := #[rawInt pos.line, rawInt pos.col, .ref c']) (h' := h'.push (PySem.W.kla_obj "<lambda>" (X.env.qual ++ "<lambda>") params body scope (cloFrom X.env.cells scope.names []) ((X.mg "__name__").getD .none) c' ctv)) I hP (fun b o hb e => Heap.get?_push_of_some _ (hx b o hb e)) (Heap.get?_push_of_some _ htb) hge ⟨oc, vs, t, Heap.get?_push_of_some _ hoc, hd, hv⟩
    have keepN : ExtN H (upd (upd H P (.tbl (ps ++ #[rawInt pos.line, rawInt pos.col, .ref c']))) c' (CodeO c' (X.env.qual ++ "<lambda>"))) := fun b o e n => by
      have nb : b ≠ P := fun z => n ps (Option.some.inj (e.symm.trans (z ▸ hP)))
      rw [upd_ne (ne_of_none e nC), upd_ne nb]
      exact e
    have lst : (ps ++ #[rawInt pos.line, rawInt pos.col, .ref c']).toList = ps.toList ++ [rawInt pos.line, rawInt pos.col, .ref c'] := by simp
    have tab : TabQ (upd (upd H P (.tbl (ps ++ #[rawInt pos.line, rawInt pos.col, .ref c']))) c' (CodeO c' (X.env.qual ++ "<lambda>"))) P := by
      refine ⟨_, by rw [upd_ne (ne_of_none hP nC), upd_same], by rw [lst]; exact PySem.TriplesOk_snoc _ _ _ _ ht, fun p' cv hcv => ?_⟩
      rw [lst] at hcv
      rcases among_line _ ht hcv with z | ⟨z, zl⟩
      · obtain ⟨d, d1, d2⟩ := ha p' cv z
        exact ⟨d, d1, keepN _ _ d2 codeO_ne⟩
      · have : qof p' = X.env.qual ++ "<lambda>" := by
          rw [← hqo]
          unfold qof
          rw [zl]
        rw [this]
        exact ⟨c', z, upd_same⟩
    refine h h'.objs.size c' ((X.mg "__name__").getD .none) ctv _ _ J (.inr ⟨ps, _, c', hP, nC, rfl, tab⟩) (Heap.get?_push_size _ rfl) ?_ (outF _ hsz) upd_same
    have hlt2 : P < h'.objs.size := Nat.lt_of_lt_of_le (Heap.lt_size atP) hsz
    rw [upd_ne (Nat.ne_of_gt hlt), upd_ne (Nat.ne_of_gt hlt2)]
    exact I.hok.fresh hsz
/-- a lambda that takes nothing -/
abbrev NoArgs (params : Arguments) (body : Expr) (scope : Scope) : Prop := ∀ (q : Str) (cl : List (Str × Addr)) (pm cv ctv : Value), bindArgs (PySem.W.kla_fn "<lambda>" q params body scope cl pm cv ctv) ⟨[], []⟩ = pure []
/-- x, at g, is a def of one parameter a -/
structure Fun1 (X : Cx) (x a : Str) (g : Addr) (pg : Arguments) (bg : List Stmt) (sg : Scope) (cdv oc : Value) (od : Option Addr) (osl : Array (Option Value)) (dV kV doc pm ct : Value) (an : Option Addr) (Ng : List Str) : Prop where
  obj : X.K.lookup g = some ⟨oc, od, .func (PySem.W.fnOf x x pg bg sg dV kV doc pm an cdv ct), osl⟩
  code : PySem.W.codeIn X.K cdv x = true
  binds : L2.Binds X.K (PySem.W.fnOf x x pg bg sg dV kV doc pm an cdv ct) [a] []
  scope : FnScope Ng [a] sg
  first : Ng[0]? = some a
  seen : Vis sg a
/-- what is wished of x(lambda: ..) -/
def tLamM (P : Addr) (q : Str) (TT : (XK → Hp → VK → Prop) → Hp → VK → Prop) (t : XK → TE) : TE := fun σ H Q => TabQ H P ∧ ∀ H1, Grow H H1 P q → TT (fun E H' Q' => t E σ H' Q') H1 Q
theorem pe_lamM {TT : (XK → Hp → VK → Prop) → Hp → VK → Prop} {x a : Str} {g c P : Addr} {k : Nat} {pg : Arguments} {bg : List Stmt} {sg : Scope} {dV kV doc pm cdv ct oc : Value} {an od : Option Addr} {osl : Array (Option Value)} {Ng : List Str}
    {t : XK → TE} {params : Arguments} {body : Expr} {scope : Scope} {p lpos pos : Pos} (hg : Gl X x) (hm : X.mg x = some (.ref g)) (hk : PySem.W.keepIn X.K (.ref g) = true) (F : Fun1 X x a g pg bg sg cdv oc od osl dV kV doc pm ct an Ng)
    (hG : GivesTo X Ng x sg g cdv bg a (X.env.qual ++ "<lambda>") TT) (TB : TabB X.base X.mg c P) (hcode : X.env.code = .ref c) (hqo : qof lpos = X.env.qual ++ "<lambda>") (hr : Room (k + 2) X.A) (L : LamS X.env.scope scope) (hdef : defaultsOf params X.env = ([], []))
    (hbind : NoArgs params body scope)
    (hbody : ∀ (A : Around) (outer : List Env) (s : Shared) (H : Hp) (E : XK) (f c' : Addr), Room k (A.deeper (lamEnv X scope s.heap.objs.size f c')) → PE (lamCx X A outer s H E scope f c') body (t E))
    (hdb : (x == ("__debug__" : Str)) = false := by decide) (hd : (a == ("__debug__" : Str)) = false := by decide) (hcd : (a == ("__classdict__" : Str)) = false := by decide) :
    PE X (.Call (.Name x p) [.Lambda params body scope lpos] [] pos) (tLamM P (X.env.qual ++ "<lambda>") TT t) := ⟨fun pins s σ H Q I h => by
  obtain ⟨hT, hgo⟩ := h
  refine wpAny_Call_Name_kw (ld_glob I hg hm (PySem.W.callWith_K (h₀ := X.base) I.ok.mod.kin hk ?_ (by rfl) (by rfl)) hdb)
  show wpAny _ _ (spliced ((false, eval (.Lambda params body scope lpos) X.env) :: backTo pos (starEach [] X.env))) _ _ s
  refine Calls.spliced_cons (lam_made I TB hcode hT hqo hdef (L.has I.ok) fun f c' pm' ctv H1 s' J grow hf hfn hfr hco => Calls.spliced_nil ⟨J.kIn, ?_⟩)
  have run : codeAny (model X.prog X.w) X.A (.call (.ref g) ⟨[.ref f], []⟩) (CR C8.CX0 X.stack X.prog X.w H1 s' Q C8.E0) s' := by
    refine run_ofS (N := Ng) (ps := [a]) (us := [.ref f]) (vs := [.ref f]) F.obj F.code F.scope hr J.env0 (F.binds s' [.ref f] J.kIn rfl) (.cons rfl .nil) rfl fun hr1 => ?_
    obtain ⟨t1, ht1, hq1⟩ := hG f c' s' H1 Q (fun E H' Q' => t E σ H' Q') (fun W pn xe E p1 p2 tk hW => pe_act (i := 0) J L hf hfn hfr (hbind _ _ _ _ _) tk hW hr1 (fun A outer s H hr2 => hbody A outer s H E f c' hr2) F.first F.seen hd hcd) hco (hgo H1 grow)
    exact ⟨t1, ht1.nox, hq1⟩
  refine wpAny_call (codeAny_mono run fun r s2 hq => ?_)
  cases r with
  | error e => exact (show False from hq).elim
  | ok fl =>
    cases fl with
    | ret u => exact J.after hq
    | next => exact hq.elim
    | brk => exact hq.elim
    | cont => exact hq.elim⟩
end
end M

/-! told(lambda: ..): what was answered, or the name of the refusal -/
namespace M
open PySem PySem.Spec PyProof.Rows L2 LamX
theorem Gr.grow {G H H1 : Hp} {P : Addr} {q : Str} (s : Sub G H) (g : Grow H H1 P q) : Gr G H G H1 :=
  ⟨Same.refl G, ⟨g.ext, fun _ t => g.tab t⟩, s.ex ⟨g.ext, fun _ t => g.tab t⟩, fun _ _ _ _ h => h⟩
theorem Gr.sameH {G H H' : Hp} (s : Sub G H) (e : Same H H') : Gr G H G H' := ⟨Same.refl G, .of e, s.ex (.of e), fun _ _ _ _ h => h⟩
/-- what is wished of the lambda's body -/
def TTc (K : PySem.W.Frag) (mg : Str → Option Value) (CS : Addr) : (XK → Hp → VK → Prop) → Hp → VK → Prop := fun tl H Q =>
  tl (fun cls d H' => ∃ D j, cls = .ref D ∧ d = none ∧ ClsJ K mg D j ∧ PySem.W.exmOne K cls (.ref CS) = some true ∧ ∀ H'', Same H' H'' → Q (.str (kindT.getD j "")) H'') H Q
def toldE (zs : List Str) (f : Rho → R D) : Rho → R D := fun ρ => match f ρ with
  | .ok d => .ok d
  | .rz z => if z ∈ zs then .ok (.str (kindT.getD (kindN.idxOf z) "")) else .bad
  | .bad => .bad
/-- the room of a suite -/
theorem roomS {k : Nat} {A : Around} {env : Env} {a : Addr} (r : Room (k + 1) A) : L2H.RoomH k ((A.deeper env).mark (some (.ref a))) :=
  ⟨by have := r.dp; show A.depth + 1 + 3 * k + 5 < recursionLimit; omega, by have := r.un; show A.units + 3 + 16 * k + 200 < cLine; omega⟩
section
variable {X : Cx}
theorem told_gv {sg : Scope} {g CS fC : Addr} {cdg : Value} {q : Str} {p1 p2 p3 p4 p5 p6 p7 p8 p9 p10 : Pos} {params : Arguments} {body : List Stmt} {scope : Scope} {dV kV doc pm cdv ct oc : Value} {an od : Option Addr} {osl : Array (Option Value)} {N : List Str}
    (hge : sg.names.lookup ("TrackError" : Str) = some .globalImplicit) (hgc : sg.names.lookup ("_law_class" : Str) = some .globalImplicit) (hle : sg.names.lookup ("e" : Str) = some .local) (hme : X.mg "TrackError" = some (.ref CS))
    (hmc : X.mg "_law_class" = some (.ref fC)) (hkc : PySem.W.keepIn X.K (.ref fC) = true) (hlk : X.K.lookup fC = some ⟨oc, od, .func (PySem.W.fnOf "_law_class" "_law_class" params body scope dV kV doc pm an cdv ct), osl⟩) (hcode : PySem.W.codeIn X.K cdv "_law_class" = true) (S : FnScope N ["kept"] scope)
    (hb : L2.Binds X.K (PySem.W.fnOf "_law_class" "_law_class" params body scope dV kV doc pm an cdv ct) ["kept"] []) (hr : Room 3 X.A)
    (hbody : ∀ (a : Addr) (oe : Obj) (Dd : Addr) (j : Nat) (A : Around) (outer : List Env) (s : Shared) (H : Hp) (Q : VK), ClsJ X.K X.mg Dd j → Zc (.ref Dd) none oe → (∃ vs, oe.data = .fields vs) → (∀ H', Same H H' → Q (.str (kindT.getD j "")) H') → L2H.RoomH 1 (A.deeper (envOfC "_law_class" scope s.heap.objs.size fC cdv)) →
      ∃ t, PSs (L2H.cxH CX0 X.prog X.w X.K X.mg X.base N "_law_class" scope fC cdv A outer s H E0 (a, oe)) body t ∧ t { nx := fun _ H' => Q .non H', rt := Q } (L2.start N [.ref a]) H) :
    GivesTo X ["deed", "e"] "_law_told" sg g cdg [.Try [.Return (some (.Call (.Name "deed" p1) [] [] p2)) p3] [.ExceptHandler (some (.Name "TrackError" p4)) (some "e") [.Return (some (.Call (.Name "_law_class" p5) [.Name "e" p6] [] p7)) p8] p9] [] [] p10] "deed" q (TTc X.K X.mg CS) := by
  intro f c' s H Q tl act hc h
  have gl1 : Gl (cxOf C8.CX0 X.prog X.w X.K X.mg X.base ["deed", "e"] "_law_told" sg g cdg X.A X.stack s H C8.E0).nox "TrackError" := hge
  have nd : (["deed", "e"] : List Str).Nodup := by decide
  refine ⟨_, pss_one (L2.ps_try_as (X := (cxOf C8.CX0 X.prog X.w X.K X.mg X.base ["deed", "e"] "_law_told" sg g cdg X.A X.stack s H C8.E0).nox) (i := 1) (n := "e") (c := .ref CS)
      (tb := fun W D σ H => ∃ Ech : XK, (∀ cls d σ' H', Ech cls d H' → W cls d σ' H') ∧ σ[0]? = some (some (.ref f)) ∧ H c' = some (CodeO c' q) ∧ tl Ech H D.rt)
      (ts := fun a cls d D σ H => (σ.length = 2 → σ[1]? = some (some (.ref a))) ∧ ∃ Dd j, cls = .ref Dd ∧ d = none ∧ ClsJ X.K X.mg Dd j ∧ ∀ H', Same H H' → D.rt (.str (kindT.getD j "")) H')
      rfl rfl nd rfl hle ⟨gl1, by decide, .inl hme⟩ L2.takes0 (fun W pn xe tk _ => ?_) (fun a oe cls d pn hz hf => ?_)), ?_⟩
  · refine ⟨fun pins s' σ H' D I h' => ?_⟩
    obtain ⟨Ech, hW, h1, h2, h3⟩ := h'
    exact (pss_one (ps_ret (pos := p3) (act W pn xe Ech p1 p2 tk hW))).run pins s' σ H' D I ⟨h1, h2, h3⟩
  · have key : PSs ((cxOf C8.CX0 X.prog X.w X.K X.mg X.base ["deed", "e"] "_law_told" sg g cdg X.A X.stack s H C8.E0).nox.suite a ((a, oe) :: pn)) [.Return (some (.Call (.Name "_law_class" p5) [.Name "e" p6] [] p7)) p8] (fun D σ H => σ[1]? = some (some (.ref a)) ∧ ∃ Dd j, cls = .ref Dd ∧ d = none ∧ ClsJ X.K X.mg Dd j ∧ ∀ H', Same H H' → D.rt (.str (kindT.getD j "")) H') := ?key
    exact ⟨fun pins s' σ H' D I h' => key.run pins s' σ H' D I ⟨h'.1 I.len, h'.2⟩⟩
    refine pss_one (ps_ret (pe_pinned (X := (cxOf C8.CX0 X.prog X.w X.K X.mg X.base ["deed", "e"] "_law_told" sg g cdg X.A X.stack s H C8.E0).nox.suite a ((a, oe) :: pn)) (k := 1) (i := 1) (R := fun Qk H => ∃ Dd j, cls = .ref Dd ∧ d = none ∧ ClsJ X.K X.mg Dd j ∧ ∀ H', Same H H' → Qk (.str (kindT.getD j "")) H')
      List.mem_cons_self (roomS hr) hgc hmc hkc hlk hcode S hb (pe_var (i := 1) rfl (.inl hle) (by decide) (by decide)) fun s2 H2 Q2 hR hr2 => ?_))
    obtain ⟨Dd, j, e1, e2, J, hq⟩ := hR
    subst e1 e2
    exact hbody a oe Dd j _ _ s2 H2 Q2 J hz hf hq hr2
  · refine ⟨_, fun cls d σ' H' hE => ?_, rfl, hc, h⟩
    obtain ⟨Dd, j, e1, e2, J, ex, hq⟩ := hE
    refine ⟨true, ex, fun _ a ha => ⟨fun hl => ?_, Dd, j, e1, e2, J, hq⟩, fun z => Bool.noConfusion z⟩
    rw [List.getElem?_set_self (by rw [List.length_set] at hl; omega)]

theorem me_told {c : Cm} {W : WM} (zs : List Str) {CS g cc P : Addr} {k : Nat} {pg : Arguments} {bg : List Stmt} {sg : Scope} {dV kV doc pm cdv ct oc : Value} {an od : Option Addr} {osl : Array (Option Value)} {Ng : List Str}
    {params : Arguments} {body : Expr} {scope : Scope} {fB : Rho → R D} {p lpos pos : Pos} (hg : Gl X "_law_told") (hm : X.mg "_law_told" = some (.ref g)) (hk : PySem.W.keepIn X.K (.ref g) = true)
    (lk : X.K.lookup g = some ⟨oc, od, .func (PySem.W.fnOf "_law_told" "_law_told" pg bg sg dV kV doc pm an cdv ct), osl⟩) (hcg : PySem.W.codeIn X.K cdv "_law_told" = true) (hb : L2.Binds X.K (PySem.W.fnOf "_law_told" "_law_told" pg bg sg dV kV doc pm an cdv ct) ["deed"] []) (Sg : FnScope Ng ["deed"] sg) (hNg : Ng[0]? = some ("deed" : Str)) (hva : Vis sg "deed")
    (hG : GivesTo X Ng "_law_told" sg g cdv bg "deed" (X.env.qual ++ "<lambda>") (TTc X.K X.mg CS)) (hqo : qof lpos = X.env.qual ++ "<lambda>") (TB : TabB X.base X.mg cc P) (hcode : X.env.code = .ref cc) (hT : TabQ c.H0 P) (hr : Room (k + 2) X.A)
    (hz : ∀ z ∈ zs, ∀ C, X.mg z = some (.ref C) → ClsJ X.K X.mg C (kindN.idxOf z) ∧ PySem.W.exmOne X.K (.ref C) (.ref CS) = some true)
    (L : LamS X.env.scope scope) (hdef : defaultsOf params X.env = ([], [])) (hbind : ∀ (q : Str) (cl : List (Str × Addr)) (pm cv ctv : Value), bindArgs (PySem.W.kla_fn "<lambda>" q params body scope cl pm cv ctv) ⟨[], []⟩ = pure [])
    (hbody : ∀ (A : Around) (outer : List Env) (s : Shared) (H : Hp) (E : XK) (f c' : Addr), Room k (A.deeper (lamEnv X scope s.heap.objs.size f c')) → ME (lamCx X A outer s H E scope f c') c (wm X.mg fun cls d _ H' => E cls d H') body fB) :
    ME X c W (.Call (.Name "_law_told" p) [.Lambda params body scope lpos] [] pos) (toldE zs fB) := by
  refine PE.imp (pe_lamM (t := fun E => tR X.K c (wm X.mg fun cls d _ H' => E cls d H') (RelQ X.K c.ns) fB) hg hm hk ⟨lk, hcg, hb, Sg, hNg, hva⟩ hG TB hcode hqo hr L hdef hbind hbody) fun σ H Qk ⟨G, ρ, ok, p⟩ => ?_
  refine ⟨ok.e.h.tabs P hT, fun H1 grow => ?_⟩
  have gr := Gr.grow ok.s grow
  refine ⟨G, ρ, ok.gr gr, ?_⟩
  unfold toldE at p
  cases e : fB ρ with
  | ok d => rw [e] at p; exact fun G' H' v g q => p G' H' v (gr.trans g) q
  | bad => rw [e] at p; exact p
  | rz z =>
    rw [e] at p
    by_cases hzz : z ∈ zs
    · simp only [if_pos hzz] at p
      intro G' H' g C hC
      obtain ⟨J, ex⟩ := hz z hzz C hC
      exact ⟨C, _, rfl, rfl, J, ex, fun H'' sm => p G' H'' _ ((gr.trans g).trans (Gr.sameH g.s sm)) (.str _)⟩
    · simp only [if_neg hzz] at p
      exact p.elim
end
/-- a def that makes lambdas: its table is told -/
def spT (K : PySem.W.Frag) (ns : Sc) (mg : Str → Option Value) (P : Addr) (f : List D → Out) : Sp := fun vs H Qk E => TabQ H P ∧ spM K ns mg f vs H Qk E
theorem fnOkL {Pr : Program} {w : World} {K : PySem.W.Frag} {mg : Str → Option Value} {base : Heap} {k : Nat} {f cc P : Addr} {name qual : Str} {params : Arguments} {bd : List Stmt} {scope : Scope} {dV kV doc pm ct oc : Value} {an od : Option Addr} {osl : Array (Option Value)} {N ps : List Str} {ns : Sc} {body : Rho → Out}
    (lk : K.lookup f = some ⟨oc, od, .func (PySem.W.fnOf name qual params bd scope dV kV doc pm an (.ref cc) ct), osl⟩) (hcd : PySem.W.codeIn K (.ref cc) qual = true) (S : FnScope N ps scope)
    (hb : ∀ (A : Around) (outer : List Env) (s : Shared) (H : Hp) (E : XK) (c : Cm), c.ns = ns → TabQ c.H0 P → Room k (A.deeper (envOfC qual scope s.heap.objs.size f (.ref cc))) → MSs (cxOf CX0 Pr w K mg base N qual scope f (.ref cc) A outer s H E).nox c W0 bd body) :
    FnOk Pr w K mg base CX0 (k + 1) f (PySem.W.fnOf name qual params bd scope dV kV doc pm an (.ref cc) ct) ps (spT K ns mg P (fnM0 ps.length N.length body)) := by
  refine fn_of lk hcd S (fun vs H Qk E h => ?_) (fun A outer s H vs Qk E hr h => ?_)
  · obtain ⟨_, G, ds, s, q, h⟩ := h
    unfold fnM0 fnM at h
    by_cases hl : ds.length = ps.length
    · rw [q.length, hl]
    · rw [if_neg hl] at h; exact h.elim
  · obtain ⟨hT, G, ds, s', q, h⟩ := h
    refine ⟨_, (hb A outer s H E ⟨ns, G, H⟩ rfl hT hr).nox, G, _, start_ok s' q, ?_⟩
    unfold fnM0 fnM at h
    by_cases hl : ds.length = ps.length
    · rw [if_pos hl] at h
      cases e : body (ds.map .d ++ List.replicate (N.length - ds.length) .no) with
      | nx ρ =>
        rw [e] at h
        exact fun G' H' σ s ok => h G' H' _ ok.e .non
      | rt x => rw [e] at h; exact fun G' H' v g q => h G' H' v g q
      | rf x => rw [e] at h; exact fun G' H' a us g n h1 h2 q => h G' H' a us g n h1 h2 q
      | rz z ρ => rw [e] at h; exact h.elim
      | bk ρ => rw [e] at h; exact h.elim
      | ct ρ => rw [e] at h; exact h.elim
      | bad => rw [e] at h; exact h.elim
    · rw [if_neg hl] at h; exact h.elim
end M

namespace M
open PySem PySem.Spec PyProof.Rows L2
theorem ClsJ.six6 {K : PySem.W.Frag} {mg : Str → Option Value} {D : Addr} {j : Nat} (c : ExcC K D) (ve : PySem.W.kitOne K (.ref D) (.type "ValueError") = some true) (lt : j < 6) {C0 C1 C2 C3 C4 C5 : Addr} {b0 b1 b2 b3 b4 b5 : Bool}
    (g0 : mg "NoBack" = some (.ref C0)) (q0 : PySem.W.kitOne K (.ref D) (.ref C0) = some b0) (g1 : mg "NoNumber" = some (.ref C1)) (q1 : PySem.W.kitOne K (.ref D) (.ref C1) = some b1) (g2 : mg "NoPlate" = some (.ref C2)) (q2 : PySem.W.kitOne K (.ref D) (.ref C2) = some b2)
    (g3 : mg "NoRow" = some (.ref C3)) (q3 : PySem.W.kitOne K (.ref D) (.ref C3) = some b3) (g4 : mg "NoText" = some (.ref C4)) (q4 : PySem.W.kitOne K (.ref D) (.ref C4) = some b4) (g5 : mg "NoWheels" = some (.ref C5)) (q5 : PySem.W.kitOne K (.ref D) (.ref C5) = some b5)
    (hb : [b0, b1, b2, b3, b4, b5] = (List.range 6).map fun i => decide (i = j) := by decide) : ClsJ K mg D j := by
  have hh : b0 = decide (0 = j) ∧ b1 = decide (1 = j) ∧ b2 = decide (2 = j) ∧ b3 = decide (3 = j) ∧ b4 = decide (4 = j) ∧ b5 = decide (5 = j) := by
    simpa [List.range, List.range.loop] using hb
  obtain ⟨rfl, rfl, rfl, rfl, rfl, rfl⟩ := hh
  refine ⟨c, fun i hi => ?_, ve, lt⟩
  have : i = 0 ∨ i = 1 ∨ i = 2 ∨ i = 3 ∨ i = 4 ∨ i = 5 := by omega
  rcases this with rfl | rfl | rfl | rfl | rfl | rfl
  · exact ⟨C0, g0, q0⟩
  · exact ⟨C1, g1, q1⟩
  · exact ⟨C2, g2, q2⟩
  · exact ⟨C3, g3, q3⟩
  · exact ⟨C4, g4, q4⟩
  · exact ⟨C5, g5, q5⟩
end M

/-! a tuple display, its object told -/
namespace M
open PySem PySem.Spec PyProof.Rows L2 HT
section
variable {X : Cx} {c : Cm} {W : WM}
def tTupN (t : TA) : TE := fun σ H Q => t σ H fun xs H1 => xs.length ≤ sizeLine ∧ ∀ (o : Obj), o.cls = .type "tuple" → o.dict = none → ∀ p, H1 p = none → Q (.ref p) (upd H1 p (.frz o (.tup xs)))
theorem pe_tupN {es : List Expr} {t : TA} {k : Nat} {pos : Pos} (h : PA X es t) : PE X (.Tuple es k pos) (tTupN t) := by
  constructor
  intro pins s σ H Q I hq
  apply wpAny_Tuple_spliced
  refine thn (h.run pos pins s σ H _ I hq) fun us s1 ⟨xs, H1, I1, r, z, q⟩ => ⟨r.length ▸ z, ?_⟩
  exact Men.cut_laid I1 (o := .frz { cls := .type "tuple", data := .seq us.toArray } (.tup xs)) ⟨Heap.get?_push_size _ rfl, z, us, r, IsTup.new _ _⟩ (q _ rfl rfl)
def tupNE (g : Rho → R (List D)) : Rho → R D := fun ρ => (g ρ).bind fun xs => if xs.length ≤ 1000000 then R.of ((intsOf xs).map fun is => NT is) else .bad
theorem me_tupN {es : List Expr} {k : Nat} {pos : Pos} {g : Rho → R (List D)} (h : MA X c W es g) : ME X c W (.Tuple es k pos) (tupNE g) :=
  PE.imp (pe_tupN h) fun σ H Qk ⟨G, ρ, ok, p⟩ => step ok p fun xs G1 H1 vs _ g1 r1 ok1 p1 => by
    by_cases hl : xs.length ≤ 1000000
    · rw [if_pos hl] at p1
      refine ⟨by rw [r1.length]; exact sz hl, ?_⟩
      cases eb : intsOf xs with
      | none => rw [eb] at p1; exact p1.elim
      | some bs =>
        rw [eb] at p1
        rw [ints_eq eb] at r1
        rw [r1.ints_inv]
        exact newN ok1.s p1
    · rw [if_neg hl] at p1; exact p1.elim
end
end M

/-! objects of the program's own: their store -/
namespace M
open PySem PySem.Spec PyProof.Rows L2
inductive Fl where
  | d (x : D)
  | o (xs : List D)
abbrev Ob := List (Str × Fl)
abbrev Om := List Ob
/-- more places known -/
def Up (ad ad' : Nat → Option Addr) : Prop := ∀ j a, ad j = some a → ad' j = some a
theorem Up.refl (ad : Nat → Option Addr) : Up ad ad := fun _ _ h => h
theorem Up.trans {a b c : Nat → Option Addr} (h : Up a b) (k : Up b c) : Up a c := fun j x z => k j x (h j x z)
section
variable {K : PySem.W.Frag} {l : List Int} {ad ad' : Nat → Option Addr} {G : Hp}
mutual
theorem Q.up (u : Up ad ad') : ∀ (d : D) (v : V), Q K ⟨l, ad⟩ G v d → Q K ⟨l, ad'⟩ G v d
  | .none, _, h => by cases h; exact .non
  | .bool _, _, h => by cases h; exact .bl _
  | .int _, _, h => by cases h; exact .int _
  | .str _, _, h => by cases h; exact .str _
  | .list ds, _, h => by cases h with | lst h1 h2 => exact .lst h1 (QA.up u ds _ h2)
  | .tuple ds, _, h => by cases h with | tup h1 h2 => exact .tup h1 (QA.up u ds _ h2)
  | .dict _, _, h => by
    cases h with
    | scr h1 => exact .scr h1
    | ntp is h1 h2 => exact .ntp is h1 h2
    | obj j h1 h2 => exact .obj j (u _ _ h1) h2
    | dk ks h1 h2 => exact .dk ks h1 h2
    | dt ks h1 h2 => exact .dt ks h1 h2
theorem QA.up (u : Up ad ad') : ∀ (ds : List D) (vs : List V), QA K ⟨l, ad⟩ G vs ds → QA K ⟨l, ad'⟩ G vs ds
  | [], _, h => by cases h; exact .nil
  | d :: ds, _, h => by cases h with | cons h1 h2 => exact .cons (Q.up u d _ h1) (QA.up u ds _ h2)
end
end
/-! ### an instance -/
inductive FsOk (K : PySem.W.Frag) (ns : Sc) (G H : Hp) : List (Str × V) → Ob → List Addr → Prop
  | nil : FsOk K ns G H [] [] []
  | d {f : Str} {v : V} {x : D} {fs : List (Str × V)} {s : Ob} {bs : List Addr} : Q K ns G v x → FsOk K ns G H fs s bs → FsOk K ns G H ((f, v) :: fs) ((f, .d x) :: s) bs
  | o {f : Str} {b : Addr} {us : List V} {xs : List D} {fs : List (Str × V)} {s : Ob} {bs : List Addr} : H b = some (.lst us) → QA K ns G us xs → FsOk K ns G H fs s bs → FsOk K ns G H ((f, .ref b) :: fs) ((f, .o xs) :: s) (b :: bs)
def ObAt (K : PySem.W.Frag) (ns : Sc) (C : Addr) (G H : Hp) (p : Addr × List Addr) (s : Ob) : Prop := ∃ dx fs, H p.1 = some (.ins C dx fs) ∧ FsOk K ns G H fs s p.2
def ows (as : List (Addr × List Addr)) : List Addr := as.flatMap fun p => p.1 :: p.2
structure Store (K : PySem.W.Frag) (ns : Sc) (C : Addr) (G H : Hp) (as : List (Addr × List Addr)) (ω : Om) : Prop where
  len : as.length = ω.length
  at_ : ∀ (j : Nat) (p : Addr × List Addr) (s : Ob), as[j]? = some p → ω[j]? = some s → ObAt K ns C G H p s
  nd : ∀ (j : Nat) (p : Addr × List Addr), as[j]? = some p → (p.1 :: p.2).Nodup
  dis : ∀ (j k : Nat) (p q : Addr × List Addr) (b : Addr), j ≠ k → as[j]? = some p → as[k]? = some q → b ∈ p.1 :: p.2 → b ∈ q.1 :: q.2 → False
  g : ∀ b ∈ ows as, G b = none
  ad : ∀ (j : Nat) (p : Addr × List Addr), as[j]? = some p → ns.ad j = some p.1
  fr : ∀ j : Nat, as.length ≤ j → ns.ad j = none
/-- an object or a list -/
def IL (H : Hp) (b : Addr) : Prop := (∃ C dx fs, H b = some (.ins C dx fs)) ∨ ∃ us, H b = some (.lst us)
theorem FsOk.il {K : PySem.W.Frag} {ns : Sc} {G H : Hp} {fs : List (Str × V)} {s : Ob} {bs : List Addr} (h : FsOk K ns G H fs s bs) : ∀ b ∈ bs, ∃ us, H b = some (.lst us) := by
  induction h with
  | nil => intro b hb; cases hb
  | d _ _ ih => exact ih
  | o h1 _ _ ih =>
    intro b hb
    rcases List.mem_cons.mp hb with rfl | hb
    · exact ⟨_, h1⟩
    · exact ih b hb
theorem mem_ows {as : List (Addr × List Addr)} {b : Addr} : b ∈ ows as ↔ ∃ p ∈ as, b = p.1 ∨ b ∈ p.2 := by
  unfold ows
  rw [List.mem_flatMap]
  constructor
  · rintro ⟨p, hp, h⟩
    exact ⟨p, hp, List.mem_cons.mp h⟩
  · rintro ⟨p, hp, h⟩
    exact ⟨p, hp, List.mem_cons.mpr h⟩
theorem Store.il {K : PySem.W.Frag} {ns : Sc} {C : Addr} {G H : Hp} {as : List (Addr × List Addr)} {ω : Om} (S : Store K ns C G H as ω) : ∀ b ∈ ows as, IL H b := fun b hb => by
  obtain ⟨p, hp, h⟩ := mem_ows.mp hb
  obtain ⟨j, hj⟩ := List.getElem?_of_mem hp
  have hlt : j < ω.length := by rw [← S.len]; exact (List.getElem?_eq_some_iff.mp hj).1
  obtain ⟨dx, fs, h1, h2⟩ := S.at_ j p _ hj (List.getElem?_eq_getElem hlt)
  rcases h with rfl | h
  · exact .inl ⟨_, _, _, h1⟩
  · exact .inr (h2.il b h)
theorem FsOk.mono {K : PySem.W.Frag} {l : List Int} {ad ad' : Nat → Option Addr} {G G' H H' : Hp} {fs : List (Str × V)} {s : Ob} {bs : List Addr} (h : FsOk K ⟨l, ad⟩ G H fs s bs) (u : Up ad ad') (g : Same G G') (k : ∀ b ∈ bs, ∀ us, H b = some (.lst us) → H' b = some (.lst us)) : FsOk K ⟨l, ad'⟩ G' H' fs s bs := by
  induction h with
  | nil => exact .nil
  | d q _ ih => exact .d (Q.mono g _ _ (Q.up u _ _ q)) (ih k)
  | o h1 q _ ih => exact .o (k _ List.mem_cons_self _ h1) (QA.mono g _ _ (QA.up u _ _ q)) (ih fun b hb => k b (List.mem_cons_of_mem _ hb))
/-- what is owned stays, and is not frozen -/
theorem Store.mono {K : PySem.W.Frag} {l : List Int} {ad ad' : Nat → Option Addr} {C : Addr} {G G' H H' : Hp} {as : List (Addr × List Addr)} {ω : Om} (S : Store K ⟨l, ad⟩ C G H as ω) (u : Up ad ad') (g : Same G G') (k : ∀ b ∈ ows as, ∀ o, H b = some o → H' b = some o) (n : ∀ b ∈ ows as, G' b = none) (hf : ∀ j : Nat, as.length ≤ j → ad' j = none) : Store K ⟨l, ad'⟩ C G' H' as ω := by
  refine ⟨S.len, fun j p s hp hs => ?_, S.nd, S.dis, n, fun j p hp => u _ _ (S.ad j p hp), hf⟩
  obtain ⟨dx, fs, h1, h2⟩ := S.at_ j p s hp hs
  have hm := List.mem_of_getElem? hp
  exact ⟨dx, fs, k _ (mem_ows.mpr ⟨p, hm, .inl rfl⟩) _ h1, h2.mono u g fun b hb us e => k b (mem_ows.mpr ⟨p, hm, .inr hb⟩) _ e⟩
theorem IL.nt {H : Hp} {b : Addr} (h : IL H b) : ∃ o, H b = some o ∧ ∀ ps, o ≠ .tbl ps := by
  rcases h with ⟨C, dx, fs, h⟩ | ⟨us, h⟩
  · exact ⟨_, h, fun ps z => nomatch z⟩
  · exact ⟨_, h, fun ps z => nomatch z⟩
/-! ### hiding -/
def hid (os : List Addr) (H : Hp) : Hp := fun b => if b ∈ os then none else H b
theorem hid_in {os : List Addr} {H : Hp} {b : Addr} (h : b ∈ os) : hid os H b = none := if_pos h
theorem hid_ne {os : List Addr} {H : Hp} {b : Addr} (h : b ∉ os) : hid os H b = H b := if_neg h
theorem hid_same {os : List Addr} {H : Hp} : Same (hid os H) H := fun b o e => by
  by_cases h : b ∈ os
  · rw [hid_in h] at e; cases e
  · rw [hid_ne h] at e; exact e
theorem hid_tab {os : List Addr} {H : Hp} {T : Addr} (hi : ∀ b ∈ os, IL H b) (t : TabQ H T) : TabQ (hid os H) T := by
  obtain ⟨ps, h1, h2, h3⟩ := t
  have key : ∀ b o, H b = some o → (∀ C dx fs, o ≠ .ins C dx fs) → (∀ us, o ≠ .lst us) → hid os H b = some o := fun b o e n1 n2 => by
    by_cases h : b ∈ os
    · rcases hi b h with ⟨C, dx, fs, z⟩ | ⟨us, z⟩
      · rw [e] at z; cases z; exact absurd rfl (n1 _ _ _)
      · rw [e] at z; cases z; exact absurd rfl (n2 _)
    · rw [hid_ne h]; exact e
  refine ⟨ps, key _ _ h1 (fun _ _ _ z => nomatch z) (fun _ z => nomatch z), h2, fun pos cv hc => ?_⟩
  obtain ⟨cc, e, h⟩ := h3 pos cv hc
  exact ⟨cc, e, key _ _ h (fun _ _ _ z => nomatch z) (fun _ z => nomatch z)⟩
/-- what is owned is hidden from the entry -/
theorem Gr.hide {G0 H0 G H : Hp} {os : List Addr} (e : Gr G0 H0 G H) (hi : ∀ b ∈ os, IL H b) (hg : ∀ b ∈ os, G b = none) (hn : ∀ b ∈ os, Nw H0 b) : Gr G0 H0 G (hid os H) := by
  refine ⟨e.g, ⟨fun b o z n => ?_, fun T t => hid_tab hi (e.h.tabs T t)⟩, fun b o z => ?_, e.n⟩
  · have hb : b ∉ os := fun h => hn b h o z n
    rw [hid_ne hb]
    exact e.h.keep b o z n
  · have hb : b ∉ os := fun h => by rw [hg b h] at z; cases z
    rw [hid_ne hb]
    exact e.s b o z
theorem Gr.unhide {G H : Hp} {os : List Addr} (s : Sub G H) : Gr G (hid os H) G H :=
  ⟨Same.refl G, .of hid_same, s, fun _ _ _ _ h => h⟩
/-! ### the state of a run with objects -/
abbrev cm (c : Cm) (ad : Nat → Option Addr) (G H : Hp) : Cm := ⟨⟨c.ns.l, ad⟩, G, H⟩
structure OkA (K : PySem.W.Frag) (c : Cm) (C : Addr) (ad : Nat → Option Addr) (as : List (Addr × List Addr)) (G H : Hp) (ρ : Rho) (ω : Om) (σ : L2.St) : Prop where
  up : Up c.ns.ad ad
  ok : Ok K (cm c ad c.G0 c.H0) G H ρ σ
  st : Store K ⟨c.ns.l, ad⟩ C G H as ω
  nw : ∀ b ∈ ows as, Nw c.H0 b
  sep : ∀ (i : Nat) (xs : List D) (a : Addr), ρ[i]? = some (.o xs) → σ[i]? = some (some (.ref a)) → a ∉ ows as
section
variable {K : PySem.W.Frag} {c : Cm} {C : Addr} {ad ad' : Nat → Option Addr} {as as' : List (Addr × List Addr)} {G H G' H' : Hp} {ρ ρ' : Rho} {ω ω' : Om} {σ σ' : L2.St}
/-- the lists of one's own -/
def ols (ρ : Rho) (σ : L2.St) : List Addr := (List.range ρ.length).filterMap fun i => match (ρ[i]? : Option Sl), (σ[i]? : Option (Option V)) with
  | some (.o _), some (some (.ref a)) => some a
  | _, _ => none
theorem mem_ols {a : Addr} (h : a ∈ ols ρ σ) : ∃ (i : Nat) (xs : List D), ρ[i]? = some (.o xs) ∧ σ[i]? = some (some (.ref a)) := by
  unfold ols at h
  rw [List.mem_filterMap] at h
  obtain ⟨i, _, h⟩ := h
  split at h
  · rename_i xs a' e1 e2
    cases h
    exact ⟨i, xs, e1, e2⟩
  · cases h
theorem ols_mem {i : Nat} {xs : List D} {a : Addr} (h1 : ρ[i]? = some (.o xs)) (h2 : σ[i]? = some (some (.ref a))) : a ∈ ols ρ σ := by
  unfold ols
  rw [List.mem_filterMap]
  refine ⟨i, List.mem_range.mpr (List.getElem?_eq_some_iff.mp h1).1, ?_⟩
  rw [h1, h2]
theorem Ok.o_at (h : Ok K c G H ρ σ) {i : Nat} {xs : List D} {a : Addr} (h1 : ρ[i]? = some (.o xs)) (h2 : σ[i]? = some (some (.ref a))) : (∃ us, H a = some (.lst us)) ∧ G a = none ∧ Nw c.H0 a := by
  obtain ⟨b, us, e, hb, gb, nb, _⟩ := h.sl i _ h1
  rw [h2] at e
  cases e
  exact ⟨⟨us, hb⟩, gb, nb⟩
/-- a statement that knows no objects is walked from here as from its own entry -/
theorem OkA.enter (h : OkA K c C ad as G H ρ ω σ) : Ok K (cm c ad G (hid (ols ρ σ) H)) G H ρ σ := by
  refine ⟨h.ok.s, Gr.unhide h.ok.s, h.ok.len, fun i x e => ?_, h.ok.dj⟩
  have hs := h.ok.sl i x e
  cases x with
  | no => trivial
  | d x => exact hs
  | o xs =>
    obtain ⟨a, us, e1, ha, ga, _, q⟩ := hs
    have hn : Nw (hid (ols ρ σ) H) a := fun o z _ => by
      rw [hid_in (ols_mem e e1)] at z
      cases z
    exact ⟨a, us, e1, ha, ga, hn, q⟩
theorem OkA.entry (h : OkA K c C ad as G H ρ ω σ) : Gr c.G0 c.H0 G (hid (ols ρ σ) H) := by
  refine Gr.hide h.ok.e (fun b hb => ?_) (fun b hb => ?_) (fun b hb => ?_) <;> obtain ⟨i, xs, e1, e2⟩ := mem_ols hb <;> obtain ⟨h1, h2, h3⟩ := h.ok.o_at e1 e2
  · exact .inr h1
  · exact h2
  · exact h3
/-- the objects behind a walk that knows none -/
theorem OkA.storeB (h : OkA K c C ad as G H ρ ω σ) (e : Gr G (hid (ols ρ σ) H) G' H') : Store K ⟨c.ns.l, ad⟩ C G' H' as ω := by
  have hne : ∀ b ∈ ows as, b ∉ ols ρ σ := fun b hb z => by
    obtain ⟨i, xs, e1, e2⟩ := mem_ols z
    exact h.sep i xs b e1 e2 hb
  refine h.st.mono (Up.refl _) e.g (fun b hb o z => ?_) (fun b hb => ?_) h.st.fr
  · obtain ⟨o', z', nt⟩ := (h.st.il b hb).nt
    rw [z] at z'; cases z'
    exact e.h.keep b o (by rw [hid_ne (hne b hb)]; exact z) nt
  · obtain ⟨o, z, nt⟩ := (h.st.il b hb).nt
    exact e.n b o (by rw [hid_ne (hne b hb)]; exact z) nt (h.st.g b hb)
theorem OkA.leave (h : OkA K c C ad as G H ρ ω σ) (k : Ok K (cm c ad G (hid (ols ρ σ) H)) G' H' ρ' σ') : OkA K c C ad as G' H' ρ' ω σ' := by
  have ent := h.entry
  refine ⟨h.up, ⟨k.s, ent.trans k.e, k.len, fun i x e => ?_, k.dj⟩, h.storeB k.e, h.nw, fun i xs a e1 e2 z => ?_⟩
  · have hs := k.sl i x e
    cases x with
    | no => trivial
    | d x => exact hs
    | o xs =>
      obtain ⟨a, us, e1, ha, ga, na, q⟩ := hs
      exact ⟨a, us, e1, ha, ga, fun o z n => na o (ent.h.keep a o z n) n, q⟩
  · obtain ⟨_, _, na⟩ := k.o_at e1 e2
    obtain ⟨o, zo, nt⟩ := (h.st.il a z).nt
    have hne : a ∉ ols ρ σ := fun y => by
      obtain ⟨i', xs', e1', e2'⟩ := mem_ols y
      exact h.sep i' xs' a e1' e2' z
    have na' : Nw (hid (ols ρ σ) H) a := na
    exact na' o (by rw [hid_ne hne]; exact zo) nt
theorem OkA.gr (h : OkA K c C ad as G H ρ ω σ) (g : Gr G H G' H') : OkA K c C ad as G' H' ρ ω σ := h.leave (h.enter.gr g)
/-- behind a call that was handed the objects -/
theorem OkA.call (h : OkA K c C ad as G H ρ ω σ) (g : Gr G (hid (ows as) H) G' H') (u : Up ad ad') (s : Store K ⟨c.ns.l, ad'⟩ C G' H' as' ω') (hn : ∀ b ∈ ows as', b ∈ ows as ∨ Nw H b) : OkA K c C ad' as' G' H' ρ ω' σ := by
  have ent : Gr c.G0 c.H0 G (hid (ows as) H) := Gr.hide h.ok.e h.st.il h.st.g h.nw
  refine ⟨h.up.trans u, ⟨g.s, ent.trans g, h.ok.len, fun i x e => ?_, h.ok.dj⟩, s, fun b hb => ?_, fun i xs a e1 e2 z => ?_⟩
  · have hs := h.ok.sl i x e
    cases x with
    | no => trivial
    | d x =>
      obtain ⟨v, e1, q⟩ := hs
      exact ⟨v, e1, Q.mono g.g _ _ (Q.up u _ _ q)⟩
    | o xs =>
      obtain ⟨a, us, e1, ha, ga, na, q⟩ := hs
      have hh : hid (ows as) H a = some (.lst us) := by rw [hid_ne (h.sep i xs a e e1)]; exact ha
      exact ⟨a, us, e1, g.h.keep a _ hh nt_lst, g.n a _ hh nt_lst ga, na, QA.mono g.g _ _ (QA.up u _ _ q)⟩
  · rcases hn b hb with z | z
    · exact h.nw b z
    · exact fun o y n => z o (h.ok.e.h.keep b o y n) n
  · obtain ⟨⟨us, ha⟩, _, _⟩ := h.ok.o_at e1 e2
    rcases hn a z with y | y
    · exact h.sep i xs a e1 e2 y
    · exact y _ ha nt_lst
end
end M

/-! expressions that change objects -/
namespace M
open PySem PySem.Spec PyProof.Rows L2
inductive RX (α : Type) where
  | ok (a : α) (ω : Om)
  | rz (z : Str) (ω : Om)
  | bad
def RX.bind {α β : Type} (r : RX α) (f : α → Om → RX β) : RX β := match r with
  | .ok a ω => f a ω
  | .rz z ω => .rz z ω
  | .bad => .bad
def RX.of {α : Type} (o : Option α) (ω : Om) : RX α := match o with
  | some a => .ok a ω
  | none => .bad
section
variable (K : PySem.W.Frag) (c : Cm) (C : Addr) (W : WM)
def PostX {α β : Type} (Rel : (Nat → Option Addr) → Hp → β → α → Prop) (G : Hp) (ad : Nat → Option Addr) (ρ : Rho) (σ : L2.St) (Qk : β → Hp → Prop) : RX α → Prop
  | .ok x ω => ∀ ad' as' G' H' v, Same G G' → Up ad ad' → OkA K c C ad' as' G' H' ρ ω σ → Rel ad' G' v x → Qk v H'
  | .rz z ω => ∀ ad' as' G' H', Same G G' → Up ad ad' → OkA K c C ad' as' G' H' ρ ω σ → W z σ H'
  | .bad => False
def tX {α β : Type} (Rel : (Nat → Option Addr) → Hp → β → α → Prop) (f : Rho → Om → RX α) : L2.St → Hp → (β → Hp → Prop) → Prop := fun σ H Qk => ∃ ad as G ρ ω, OkA K c C ad as G H ρ ω σ ∧ PostX K c C W Rel G ad ρ σ Qk (f ρ ω)
end
abbrev XQ (K : PySem.W.Frag) (l : List Int) : (Nat → Option Addr) → Hp → V → D → Prop := fun ad G v d => Q K ⟨l, ad⟩ G v d
abbrev XQA (K : PySem.W.Frag) (l : List Int) : (Nat → Option Addr) → Hp → List V → List D → Prop := fun ad G v d => QA K ⟨l, ad⟩ G v d
abbrev XT : (Nat → Option Addr) → Hp → Bool → Bool → Prop := fun _ _ b b' => b = b'
abbrev MX (X : Cx) (c : Cm) (C : Addr) (W : WM) (e : Expr) (f : Rho → Om → RX D) : Prop := PE X e (tX X.K c C W (XQ X.K c.ns.l) f)
abbrev MAX (X : Cx) (c : Cm) (C : Addr) (W : WM) (e : List Expr) (f : Rho → Om → RX (List D)) : Prop := PA X e (tX X.K c C W (XQA X.K c.ns.l) f)
abbrev MTX (X : Cx) (c : Cm) (C : Addr) (W : WM) (e : Expr) (f : Rho → Om → RX Bool) : Prop := PT X e (tX X.K c C W XT f)
abbrev MWX (X : Cx) (c : Cm) (C : Addr) (W : WM) (e : Expr) (f : Rho → Om → RX Bool) : Prop := PW X e (tX X.K c C W XT f)
section
variable {K : PySem.W.Frag} {c : Cm} {C : Addr} {W : WM} {α β γ δ : Type} {Rel : (Nat → Option Addr) → Hp → β → α → Prop} {Rel2 : (Nat → Option Addr) → Hp → δ → γ → Prop} {ad ad' : Nat → Option Addr} {as as' : List (Addr × List Addr)} {G H G' H' : Hp} {ρ ρ' : Rho} {ω ω' : Om} {σ σ' : L2.St}
theorem PostX.gr {Qk : β → Hp → Prop} {r : RX α} (h : PostX K c C W Rel G ad ρ σ Qk r) (g : Same G G') (u : Up ad ad') : PostX K c C W Rel G' ad' ρ σ Qk r := by
  cases r with
  | ok a ω => exact fun ad2 as2 G2 H2 v g2 u2 o q => h ad2 as2 G2 H2 v (g.trans g2) (u.trans u2) o q
  | rz z ω => exact fun ad2 as2 G2 H2 g2 u2 o => h ad2 as2 G2 H2 (g.trans g2) (u.trans u2) o
  | bad => exact h
theorem stepX {f : Rho → Om → RX α} {F : α → Om → RX γ} {Qk : δ → Hp → Prop} {k : β → Hp → Prop} (ok : OkA K c C ad as G H ρ ω σ) (h : PostX K c C W Rel2 G ad ρ σ Qk ((f ρ ω).bind F))
    (hk : ∀ x ω1 ad1 as1 G1 H1 v, Same G G1 → Up ad ad1 → OkA K c C ad1 as1 G1 H1 ρ ω1 σ → Rel ad1 G1 v x → PostX K c C W Rel2 G1 ad1 ρ σ Qk (F x ω1) → k v H1) : tX K c C W Rel f σ H k := by
  refine ⟨ad, as, G, ρ, ω, ok, ?_⟩
  cases e : f ρ ω with
  | ok x ω1 =>
    rw [e] at h
    exact fun ad1 as1 G1 H1 v g u o r => hk x ω1 ad1 as1 G1 H1 v g u o r (PostX.gr (r := F x ω1) h g u)
  | rz z ω1 => rw [e] at h; exact h
  | bad => rw [e] at h; exact h.elim
theorem OkA.s (h : OkA K c C ad as G H ρ ω σ) : Sub G H := h.ok.s
/-- the answer of a walk that knows no objects -/
theorem PostX.done {Qk : β → Hp → Prop} {x : α} (ok : OkA K c C ad as G H ρ ω σ) (p : PostX K c C W Rel G ad ρ σ Qk (.ok x ω)) (g : Gr G H G' H') {v : β} (r : Rel ad G' v x) : Qk v H' :=
  p ad as G' H' v g.g (Up.refl ad) (ok.gr g) r
end
/-! ### what knows no objects -/
def lf {α : Type} (f : Rho → R α) : Rho → Om → RX α := fun ρ ω => match f ρ with
  | .ok x => .ok x ω
  | .rz z => .rz z ω
  | .bad => .bad
section
variable {X : Cx} {c : Cm} {C : Addr} {W : WM}
theorem lf_post {K : PySem.W.Frag} {α β : Type} {Rel : Sc → Hp → Hp → β → α → Prop} {Rl : (Nat → Option Addr) → Hp → β → α → Prop} {ad : Nat → Option Addr} {as : List (Addr × List Addr)} {G H : Hp} {ρ : Rho} {ω : Om} {σ : L2.St} {Qk : β → Hp → Prop} {f : Rho → R α} (hR : ∀ G H v x, Rel ⟨c.ns.l, ad⟩ G H v x → Rl ad G v x) (ok : OkA K c C ad as G H ρ ω σ)
    (p : PostX K c C W Rl G ad ρ σ Qk (lf f ρ ω)) : tR K (cm c ad G (hid (ols ρ σ) H)) W (Rel ⟨c.ns.l, ad⟩) f σ H Qk := by
  refine ⟨G, ρ, ok.enter, ?_⟩
  unfold lf at p
  cases e : f ρ with
  | ok x => rw [e] at p; exact fun G' H' v g r => p ad as G' H' v g.g (Up.refl ad) (ok.gr g) (hR _ _ _ _ r)
  | rz z => rw [e] at p; exact fun G' H' g => p ad as G' H' g.g (Up.refl ad) (ok.gr g)
  | bad => rw [e] at p; exact p
theorem mx_of {e : Expr} {f : Rho → R D} (h : ∀ ad G0 H0, ME X ⟨⟨c.ns.l, ad⟩, G0, H0⟩ W e f) : MX X c C W e (lf f) :=
  ⟨fun pins s σ H Qk I ⟨ad, as, G, ρ, ω, ok, p⟩ => (h ad G (hid (ols ρ σ) H)).run pins s σ H Qk I (lf_post (Rel := fun ns => RelQ X.K ns) (fun _ _ _ _ q => q) ok p)⟩
theorem mtx_of {e : Expr} {f : Rho → R Bool} (h : ∀ ad G0 H0, MT X ⟨⟨c.ns.l, ad⟩, G0, H0⟩ W e f) : MTX X c C W e (lf f) :=
  ⟨fun pins s σ H Qk I ⟨ad, as, G, ρ, ω, ok, p⟩ => (h ad G (hid (ols ρ σ) H)).run pins s σ H Qk I (lf_post (Rel := fun _ => RelT) (fun _ _ _ _ q => q) ok p)⟩
theorem max_of {e : List Expr} {f : Rho → R (List D)} (h : ∀ ad G0 H0, MA X ⟨⟨c.ns.l, ad⟩, G0, H0⟩ W e f) : MAX X c C W e (lf f) :=
  ⟨fun p pins s σ H Qk I ⟨ad, as, G, ρ, ω, ok, q⟩ => (h ad G (hid (ols ρ σ) H)).run p pins s σ H Qk I (lf_post (Rel := fun ns => RelQA X.K ns) (fun _ _ _ _ q => q) ok q)⟩
/-! ### operators -/
def x2 {α β γ : Type} (o : α → β → Option γ) (f : Rho → Om → RX α) (g : Rho → Om → RX β) : Rho → Om → RX γ := fun ρ ω => (f ρ ω).bind fun x ω1 => (g ρ ω1).bind fun y ω2 => RX.of (o x y) ω2
def x1 {α β : Type} (o : α → Option β) (f : Rho → Om → RX α) : Rho → Om → RX β := fun ρ ω => (f ρ ω).bind fun x ω1 => RX.of (o x) ω1
def xbv (f : Rho → Om → RX Bool) : Rho → Om → RX D := fun ρ ω => (f ρ ω).bind fun b ω1 => .ok (.bool b) ω1
theorem mx_op {op : Operator} {r : R2} {o : D → D → Option D} {a b : Expr} {f g : Rho → Om → RX D} {pos : Pos} (ho : OpR X (binaryOp op) r) (hr : ∀ c : Cm, OpD X c.ns r o) (ha : MX X c C W a f) (hb : MX X c C W b g) : MX X c C W (.BinOp a op b pos) (x2 o f g) :=
  PE.imp (pe_op ho ha hb) fun σ H Qk ⟨ad, as, G, ρ, ω, ok, p⟩ => stepX ok p fun x ω1 ad1 as1 G1 H1 v g1 u1 ok1 r1 p1 => stepX ok1 p1 fun y ω2 ad2 as2 G2 H2 w g2 u2 ok2 r2 p2 => by
    cases e : o x y with
    | none => rw [e] at p2; exact p2.elim
    | some d =>
      rw [e] at p2
      exact hr (cm c ad2 G2 H2) G2 H2 v w x y d Qk e ok2.s (.inl (Q.mono g2 _ _ (Q.up u2 _ _ r1))) (.inl r2) fun G' H' u gr q => PostX.done ok2 p2 gr q
theorem mx_ix {r : R2} {o : D → D → Option D} {a b : Expr} {f g : Rho → Om → RX D} {pos : Pos} (ho : IxR X r) (hr : ∀ c : Cm, OpD X c.ns r o) (ha : MX X c C W a f) (hb : MX X c C W b g) (hs : PlainIx b) : MX X c C W (.Subscript a b pos) (x2 o f g) :=
  PE.imp (pe_ix ho ha hb hs) fun σ H Qk ⟨ad, as, G, ρ, ω, ok, p⟩ => stepX ok p fun x ω1 ad1 as1 G1 H1 v g1 u1 ok1 r1 p1 => stepX ok1 p1 fun y ω2 ad2 as2 G2 H2 w g2 u2 ok2 r2 p2 => by
    cases e : o x y with
    | none => rw [e] at p2; exact p2.elim
    | some d =>
      rw [e] at p2
      exact hr (cm c ad2 G2 H2) G2 H2 v w x y d Qk e ok2.s (.inl (Q.mono g2 _ _ (Q.up u2 _ _ r1))) (.inl r2) fun G' H' u gr q => PostX.done ok2 p2 gr q
theorem mtx_cmp {op : CmpOp} {r : R2} {o : D → D → Option Bool} {a b : Expr} {f g : Rho → Om → RX D} {pos : Pos} (ho : OpR X (compareOp op) r) (hr : ∀ c : Cm, CmD X c.ns r o) (ha : MX X c C W a f) (hb : MX X c C W b g) (hm : behindInMarks op b = false) : MTX X c C W (.Compare a [op] [b] pos) (x2 o f g) :=
  PT.imp (pt_cmpR ho ha hb hm) fun σ H Qk ⟨ad, as, G, ρ, ω, ok, p⟩ => stepX ok p fun x ω1 ad1 as1 G1 H1 v g1 u1 ok1 r1 p1 => stepX ok1 p1 fun y ω2 ad2 as2 G2 H2 w g2 u2 ok2 r2 p2 => by
    cases e : o x y with
    | none => rw [e] at p2; exact p2.elim
    | some d =>
      rw [e] at p2
      exact hr (cm c ad2 G2 H2) G2 H2 v w x y d _ e ok2.s (.inl (Q.mono g2 _ _ (Q.up u2 _ _ r1))) (.inl r2) fun G' H' gr => ⟨d, rfl, PostX.done ok2 p2 gr rfl⟩
theorem bind_bv {α β : Type} {f : RX α} {g : α → Om → RX Bool} : ((f.bind g).bind fun b ω1 => RX.ok (PyData.bool b) ω1) = f.bind fun x ω => (g x ω).bind fun b ω1 => RX.ok (PyData.bool b) ω1 := by
  cases f <;> rfl
theorem mx_cmp {op : CmpOp} {r : R2} {o : D → D → Option Bool} {a b : Expr} {f g : Rho → Om → RX D} {pos : Pos} (ho : OpR X (compareOp op) r) (hr : ∀ c : Cm, CmD X c.ns r o) (ha : MX X c C W a f) (hb : MX X c C W b g) (hm : behindInMarks op b = false) : MX X c C W (.Compare a [op] [b] pos) (xbv (x2 o f g)) :=
  PE.imp (pe_cmpR ho ha hb hm) fun σ H Qk ⟨ad, as, G, ρ, ω, ok, p⟩ => by
    have e0 : xbv (x2 o f g) ρ ω = (f ρ ω).bind fun x ω1 => (g ρ ω1).bind fun y ω2 => (RX.of (o x y) ω2).bind fun b ω3 => .ok (.bool b) ω3 := by
      unfold xbv x2
      cases f ρ ω with
      | ok x ω1 =>
        show RX.bind (RX.bind (g ρ ω1) _) _ = RX.bind (g ρ ω1) _
        cases g ρ ω1 <;> rfl
      | rz _ _ => rfl
      | bad => rfl
    rw [e0] at p
    exact stepX ok p fun x ω1 ad1 as1 G1 H1 v g1 u1 ok1 r1 p1 => stepX ok1 p1 fun y ω2 ad2 as2 G2 H2 w g2 u2 ok2 r2 p2 => by
      cases e : o x y with
      | none => rw [e] at p2; exact p2.elim
      | some d =>
        rw [e] at p2
        exact hr (cm c ad2 G2 H2) G2 H2 v w x y d _ e ok2.s (.inl (Q.mono g2 _ _ (Q.up u2 _ _ r1))) (.inl r2) fun G' H' gr => PostX.done (Rel := XQ X.K c.ns.l) (x := .bool d) ok2 p2 gr (.bl d)
/-- a < b < d -/
def xch (o o' : D → D → Option Bool) (f g h : Rho → Om → RX D) : Rho → Om → RX Bool := fun ρ ω => (f ρ ω).bind fun x ω1 => (g ρ ω1).bind fun y ω2 => (RX.of (o x y) ω2).bind fun b ω2 => if b then (h ρ ω2).bind fun z ω3 => RX.of (o' y z) ω3 else .ok false ω2
theorem mtx_chain {op op' : CmpOp} {r r' : R2} {o o' : D → D → Option Bool} {a b d : Expr} {f g h : Rho → Om → RX D} {pos : Pos} (ho : OpR X (compareOp op) r) (ho' : OpR X (compareOp op') r') (hr : ∀ c : Cm, CmD X c.ns r o) (hr' : ∀ c : Cm, CmD X c.ns r' o') (ha : MX X c C W a f) (hb : MX X c C W b g) (hd : MX X c C W d h)
    (hm : lastMarks [op, op'] [b, d] = false := by with_unfolding_all rfl) : MTX X c C W (.Compare a [op, op'] [b, d] pos) (xch o o' f g h) :=
  PT.imp (pt_chain ho ho' ha hb hd hm) fun σ H Qk ⟨ad, as, G, ρ, ω, ok, p⟩ => stepX ok p fun x ω1 ad1 as1 G1 H1 v g1 u1 ok1 r1 p1 => stepX ok1 p1 fun y ω2 ad2 as2 G2 H2 w g2 u2 ok2 r2 p2 => by
    cases e : o x y with
    | none => rw [e] at p2; exact p2.elim
    | some k =>
      rw [e] at p2
      refine hr (cm c ad2 G2 H2) G2 H2 v w x y k _ e ok2.s (.inl (Q.mono g2 _ _ (Q.up u2 _ _ r1))) (.inl r2) fun G3 H3 g3 => ⟨k, rfl, ?_⟩
      have ok3 := ok2.gr g3
      have p3 := PostX.gr p2 g3.g (Up.refl _)
      cases k with
      | false => exact ⟨false, rfl, PostX.done ok3 p3 (Gr.refl ok3.s) rfl⟩
      | true =>
        refine stepX ok3 p3 fun z ω4 ad4 as4 G4 H4 u g4 u4 ok4 r4 p4 => ?_
        cases e' : o' y z with
        | none => rw [e'] at p4; exact p4.elim
        | some k' =>
          rw [e'] at p4
          exact hr' (cm c ad4 G4 H4) G4 H4 w u y z k' _ e' ok4.s (.inl (Q.mono (g3.g.trans g4) _ _ (Q.up u4 _ _ r2))) (.inl r4) fun G' H' gr => ⟨k', rfl, PostX.done ok4 p4 gr rfl⟩
/-! ### truth -/
theorem mtx_val {e : Expr} {f : Rho → Om → RX D} (h : MX X c C W e f) (he : ∀ whole, isTrue e X.env whole = (do let v ← whole; standAt e.pos; holding [v] (truthy v)) := by intro _; rfl) : MTX X c C W e (x1 asB f) :=
  PT.imp (pt_val h he) fun σ H Qk ⟨ad, as, G, ρ, ω, ok, p⟩ => stepX ok p fun x ω1 ad1 as1 G1 H1 v g1 u1 ok1 r1 p1 => by
    cases x with
    | bool b =>
      cases r1
      exact ⟨b, rfl, PostX.done ok1 p1 (Gr.refl ok1.s) rfl⟩
    | _ => exact p1.elim
def xandT (f g : Rho → Om → RX Bool) : Rho → Om → RX Bool := fun ρ ω => (f ρ ω).bind fun b ω1 => if b then g ρ ω1 else .ok false ω1
def xorT (f g : Rho → Om → RX Bool) : Rho → Om → RX Bool := fun ρ ω => (f ρ ω).bind fun b ω1 => if b then .ok true ω1 else g ρ ω1
def xnotT (f : Rho → Om → RX Bool) : Rho → Om → RX Bool := fun ρ ω => (f ρ ω).bind fun b ω1 => .ok (!b) ω1
theorem mwx_and1 {a : Expr} {pos : Pos} {f : Rho → Om → RX Bool} (h : MTX X c C W a f) : MWX X c C W (.BoolOp .And [a] pos) f := pw_and1 h
theorem mwx_or1 {a : Expr} {pos : Pos} {f : Rho → Om → RX Bool} (h : MTX X c C W a f) : MWX X c C W (.BoolOp .Or [a] pos) f := pw_or1 h
theorem mwx_and {a b : Expr} {rest : List Expr} {pos : Pos} {f g : Rho → Om → RX Bool} (ha : MTX X c C W a f) (hb : MWX X c C W (.BoolOp .And (b :: rest) pos) g) : MWX X c C W (.BoolOp .And (a :: b :: rest) pos) (xandT f g) :=
  PW.imp (pw_and ha hb) fun σ H Qk ⟨ad, as, G, ρ, ω, ok, p⟩ => stepX ok p fun x ω1 ad1 as1 G1 H1 v g1 u1 ok1 r1 p1 => by
    subst r1
    cases v with
    | true => exact ⟨ad1, as1, G1, ρ, ω1, ok1, p1⟩
    | false => exact PostX.done ok1 p1 (Gr.refl ok1.s) rfl
theorem mwx_or {a b : Expr} {rest : List Expr} {pos : Pos} {f g : Rho → Om → RX Bool} (ha : MTX X c C W a f) (hb : MWX X c C W (.BoolOp .Or (b :: rest) pos) g) : MWX X c C W (.BoolOp .Or (a :: b :: rest) pos) (xorT f g) :=
  PW.imp (pw_or ha hb) fun σ H Qk ⟨ad, as, G, ρ, ω, ok, p⟩ => stepX ok p fun x ω1 ad1 as1 G1 H1 v g1 u1 ok1 r1 p1 => by
    subst r1
    cases v with
    | false => exact ⟨ad1, as1, G1, ρ, ω1, ok1, p1⟩
    | true => exact PostX.done ok1 p1 (Gr.refl ok1.s) rfl
theorem mtx_w {e : Expr} {f : Rho → Om → RX Bool} (h : MWX X c C W e f) : MTX X c C W e f := PW.pt h
theorem mtx_not {a : Expr} {pos : Pos} {f : Rho → Om → RX Bool} (ha : MTX X c C W a f) : MTX X c C W (.UnaryOp .Not a pos) (xnotT f) :=
  PT.imp (pt_not ha) fun σ H Qk ⟨ad, as, G, ρ, ω, ok, p⟩ => stepX ok p fun x ω1 ad1 as1 G1 H1 v g1 u1 ok1 r1 p1 => by
    subst r1
    exact PostX.done ok1 p1 (Gr.refl ok1.s) rfl
def xandV (f g : Rho → Om → RX D) : Rho → Om → RX D := fun ρ ω => (f ρ ω).bind fun x ω1 => match x with
  | .bool true => g ρ ω1
  | .bool false => .ok (.bool false) ω1
  | _ => .bad
theorem mx_one {op} {a : Expr} {pos : Pos} {f : Rho → Om → RX D} (h : MX X c C W a f) : MX X c C W (.BoolOp op [a] pos) f := pe_one h
theorem mx_and {a b : Expr} {rest : List Expr} {pos : Pos} {f g : Rho → Om → RX D} (ha : MX X c C W a f) (hb : MX X c C W (.BoolOp .And (b :: rest) pos) g) : MX X c C W (.BoolOp .And (a :: b :: rest) pos) (xandV f g) :=
  PE.imp (pe_and ha hb) fun σ H Qk ⟨ad, as, G, ρ, ω, ok, p⟩ => stepX ok p fun x ω1 ad1 as1 G1 H1 v g1 u1 ok1 r1 p1 => by
    cases x with
    | bool b =>
      cases r1
      refine ⟨b, rfl, ?_⟩
      cases b with
      | true => exact ⟨ad1, as1, G1, ρ, ω1, ok1, p1⟩
      | false => exact PostX.done (Rel := XQ X.K c.ns.l) (x := .bool false) ok1 p1 (Gr.refl ok1.s) (.bl false)
    | _ => exact p1.elim
def xif {α : Type} (t : Rho → Om → RX Bool) (f g : Rho → Om → RX α) : Rho → Om → RX α := fun ρ ω => (t ρ ω).bind fun b ω1 => if b then f ρ ω1 else g ρ ω1
theorem mx_if {t a b : Expr} {pos : Pos} {ft : Rho → Om → RX Bool} {f g : Rho → Om → RX D} (ht : MTX X c C W t ft) (ha : MX X c C W a f) (hb : MX X c C W b g) : MX X c C W (.IfExp t a b pos) (xif ft f g) :=
  PE.imp (pe_ifExp ht ha hb) fun σ H Qk ⟨ad, as, G, ρ, ω, ok, p⟩ => stepX ok p fun x ω1 ad1 as1 G1 H1 v g1 u1 ok1 r1 p1 => by
    subst r1
    cases v with
    | true => exact ⟨ad1, as1, G1, ρ, ω1, ok1, p1⟩
    | false => exact ⟨ad1, as1, G1, ρ, ω1, ok1, p1⟩
/-! ### argument lists, displays, built-ins -/
def xcons (f : Rho → Om → RX D) (g : Rho → Om → RX (List D)) : Rho → Om → RX (List D) := fun ρ ω => (f ρ ω).bind fun x ω1 => (g ρ ω1).bind fun xs ω2 => .ok (x :: xs) ω2
def xnil : Rho → Om → RX (List D) := fun _ ω => .ok [] ω
theorem max_nil : MAX X c C W [] xnil := PA.imp pa_nil fun σ H Qk ⟨ad, as, G, ρ, ω, ok, p⟩ => PostX.done (Rel := XQA X.K c.ns.l) (x := ([] : List D)) ok p (Gr.refl ok.s) .nil
theorem max_cons {e : Expr} {es : List Expr} {f : Rho → Om → RX D} {g : Rho → Om → RX (List D)} (ha : MX X c C W e f) (hr : MAX X c C W es g) (hs : starEach (e :: es) X.env = (false, eval e X.env) :: starEach es X.env := by rfl) : MAX X c C W (e :: es) (xcons f g) :=
  PA.imp (pa_cons ha hr hs) fun σ H Qk ⟨ad, as, G, ρ, ω, ok, p⟩ => stepX ok p fun x ω1 ad1 as1 G1 H1 v g1 u1 ok1 r1 p1 => stepX ok1 p1 fun y ω2 ad2 as2 G2 H2 w g2 u2 ok2 r2 p2 =>
    PostX.done (Rel := XQA X.K c.ns.l) (x := x :: y) ok2 p2 (Gr.refl ok2.s) (.cons (Q.mono g2 _ _ (Q.up u2 _ _ r1)) r2)
def xtup (g : Rho → Om → RX (List D)) : Rho → Om → RX D := fun ρ ω => (g ρ ω).bind fun xs ω1 => if xs.length ≤ 1000000 then .ok (.tuple xs) ω1 else .bad
def xlst (g : Rho → Om → RX (List D)) : Rho → Om → RX D := fun ρ ω => (g ρ ω).bind fun xs ω1 => if xs.length ≤ 1000000 then .ok (.list xs) ω1 else .bad
theorem mx_tup {es : List Expr} {k : Nat} {pos : Pos} {g : Rho → Om → RX (List D)} (h : MAX X c C W es g) : MX X c C W (.Tuple es k pos) (xtup g) :=
  PE.imp (pe_tup h) fun σ H Qk ⟨ad, as, G, ρ, ω, ok, p⟩ => stepX ok p fun xs ω1 ad1 as1 G1 H1 vs g1 u1 ok1 r1 p1 => by
    by_cases hl : xs.length ≤ 1000000
    · rw [if_pos hl] at p1
      exact ⟨by rw [r1.length]; exact sz hl, fun q hq => PostX.done (Rel := XQ X.K c.ns.l) (x := .tuple xs) ok1 p1 (Gr.new ok1.s hq nt_tup) (.tup (.inl (.inl upd_same)) (QA.mono (new_same (ok1.s.free hq)) _ _ r1))⟩
    · rw [if_neg hl] at p1; exact p1.elim
theorem mx_lst {es : List Expr} {pos : Pos} {g : Rho → Om → RX (List D)} (h : MAX X c C W es g) : MX X c C W (.List es pos) (xlst g) :=
  PE.imp (pe_lst h) fun σ H Qk ⟨ad, as, G, ρ, ω, ok, p⟩ => stepX ok p fun xs ω1 ad1 as1 G1 H1 vs g1 u1 ok1 r1 p1 => by
    by_cases hl : xs.length ≤ 1000000
    · rw [if_pos hl] at p1
      exact ⟨by rw [r1.length]; exact sz hl, fun q hq => PostX.done (Rel := XQ X.K c.ns.l) (x := .list xs) ok1 p1 (Gr.new ok1.s hq nt_lst) (.lst upd_same (QA.mono (new_same (ok1.s.free hq)) _ _ r1))⟩
    · rw [if_neg hl] at p1; exact p1.elim
theorem QA.ba {K : PySem.W.Frag} {ns : Sc} {G H : Hp} : ∀ {vs : List V} {ds : List D}, QA K ns G vs ds → BA K ns G H vs ds
  | _, _, .nil => .nil
  | _, _, .cons h t => .cons (.inl h) t.ba
theorem mx_callB {id : String} {r : List V → Hp → VK → Prop} {o : List D → Option D} {x : Str} {e : Expr} {es : List Expr} {g : Rho → Om → RX (List D)} {p pos : Pos} (hc : CallR X (.builtin id) r) (hr : ∀ c : Cm, CaD X c.ns r o) (hg : Gl X x) (hm : X.mg x = none) (hv : bootBuiltins x = some (.builtin id)) (ha : MAX X c C W (e :: es) g)
    (hn : x ≠ "__name__" := by decide) (hdb : (x == ("__debug__" : Str)) = false := by decide) (he : starEach (e :: es) X.env = (false, eval e X.env) :: starEach es X.env := by rfl) (hpl : (backTo pos (starEach es X.env)).any (·.1) = false := by rfl) :
    MX X c C W (.Call (.Name x p) (e :: es) [] pos) (x1 o g) :=
  PE.imp (pe_callB hc hg hm hv ha hn hdb he hpl) fun σ H Qk ⟨ad, as, G, ρ, ω, ok, p⟩ => stepX ok p fun xs ω1 ad1 as1 G1 H1 vs g1 u1 ok1 r1 p1 => by
    cases e : o xs with
    | none => rw [e] at p1; exact p1.elim
    | some d =>
      rw [e] at p1
      exact hr (cm c ad1 G1 H1) G1 H1 vs xs d Qk e ok1.s r1.ba fun G' H' u gr q => PostX.done ok1 p1 gr q
theorem mx_callTy {T : String} {r : List V → Hp → VK → Prop} {o : List D → Option D} {x : Str} {e : Expr} {es : List Expr} {g : Rho → Om → RX (List D)} {p pos : Pos} (hc : CallR X (.type T) r) (hr : ∀ c : Cm, CaD X c.ns r o) (hg : Gl X x) (hm : X.mg x = none) (hv : bootBuiltins x = some (.type T)) (ha : MAX X c C W (e :: es) g)
    (hn : x ≠ "__name__" := by decide) (hdb : (x == ("__debug__" : Str)) = false := by decide) (he : starEach (e :: es) X.env = (false, eval e X.env) :: starEach es X.env := by rfl) (hpl : (backTo pos (starEach es X.env)).any (·.1) = false := by rfl) :
    MX X c C W (.Call (.Name x p) (e :: es) [] pos) (x1 o g) :=
  PE.imp (pe_callTy hc hg hm hv ha hn hdb he hpl) fun σ H Qk ⟨ad, as, G, ρ, ω, ok, p⟩ => stepX ok p fun xs ω1 ad1 as1 G1 H1 vs g1 u1 ok1 r1 p1 => by
    cases e : o xs with
    | none => rw [e] at p1; exact p1.elim
    | some d =>
      rw [e] at p1
      exact hr (cm c ad1 G1 H1) G1 H1 vs xs d Qk e ok1.s r1.ba fun G' H' u gr q => PostX.done ok1 p1 gr q
end
end M

/-! statements that change objects -/
namespace M
open PySem PySem.Spec PyProof.Rows L2
inductive OutS where
  | nx (ρ : Rho) (ω : Om)
  | rt (x : D) (ω : Om)
  | rz (z : Str) (ρ : Rho) (ω : Om)
  | bk (ρ : Rho) (ω : Om)
  | ct (ρ : Rho) (ω : Om)
  | bad
def RX.out {α : Type} (r : RX α) (ρ : Rho) (k : α → Om → OutS) : OutS := match r with
  | .ok a ω => k a ω
  | .rz z ω => .rz z ρ ω
  | .bad => .bad
structure EndO (K : PySem.W.Frag) (c : Cm) (C : Addr) (ad : Nat → Option Addr) (as : List (Addr × List Addr)) (G H : Hp) (ω : Om) : Prop where
  up : Up c.ns.ad ad
  gr : Gr c.G0 c.H0 G H
  st : Store K ⟨c.ns.l, ad⟩ C G H as ω
  nw : ∀ b ∈ ows as, Nw c.H0 b
section
variable (K : PySem.W.Frag) (c : Cm) (C : Addr) (W : WM)
def PostO (G : Hp) (ad : Nat → Option Addr) (De : Ends) : OutS → Prop
  | .nx ρ ω => ∀ ad' as' G' H' σ, Same G G' → Up ad ad' → OkA K c C ad' as' G' H' ρ ω σ → De.nx σ H'
  | .rt x ω => ∀ ad' as' G' H' v, EndO K c C ad' as' G' H' ω → Q K ⟨c.ns.l, ad'⟩ G' v x → De.rt v H'
  | .rz z ρ ω => ∀ ad' as' G' H' σ, Same G G' → Up ad ad' → OkA K c C ad' as' G' H' ρ ω σ → W z σ H'
  | .bk ρ ω => ∀ ad' as' G' H' σ, Same G G' → Up ad ad' → OkA K c C ad' as' G' H' ρ ω σ → De.bk σ H'
  | .ct ρ ω => ∀ ad' as' G' H' σ, Same G G' → Up ad ad' → OkA K c C ad' as' G' H' ρ ω σ → De.ct σ H'
  | .bad => False
def tO (f : Rho → Om → OutS) : TS := fun De σ H => ∃ ad as G ρ ω, OkA K c C ad as G H ρ ω σ ∧ PostO K c C W G ad De (f ρ ω)
end
abbrev MY (X : Cx) (c : Cm) (C : Addr) (W : WM) (st : Stmt) (f : Rho → Om → OutS) : Prop := PS X st (tO X.K c C W f)
abbrev MYs (X : Cx) (c : Cm) (C : Addr) (W : WM) (st : List Stmt) (f : Rho → Om → OutS) : Prop := PSs X st (tO X.K c C W f)
section
variable {K : PySem.W.Frag} {c : Cm} {C : Addr} {W : WM} {ad ad' : Nat → Option Addr} {as as' : List (Addr × List Addr)} {G H G' H' : Hp} {ρ ρ' : Rho} {ω ω' : Om} {σ σ' : L2.St} {De : Ends}
theorem PostO.gr {o : OutS} (h : PostO K c C W G ad De o) (g : Same G G') (u : Up ad ad') : PostO K c C W G' ad' De o := by
  cases o with
  | nx ρ ω => exact fun ad2 as2 G2 H2 σ s u2 ok => h ad2 as2 G2 H2 σ (g.trans s) (u.trans u2) ok
  | rt x ω => exact h
  | rz z ρ ω => exact fun ad2 as2 G2 H2 σ s u2 ok => h ad2 as2 G2 H2 σ (g.trans s) (u.trans u2) ok
  | bk ρ ω => exact fun ad2 as2 G2 H2 σ s u2 ok => h ad2 as2 G2 H2 σ (g.trans s) (u.trans u2) ok
  | ct ρ ω => exact fun ad2 as2 G2 H2 σ s u2 ok => h ad2 as2 G2 H2 σ (g.trans s) (u.trans u2) ok
  | bad => exact h
theorem stepO {α β : Type} {Rel : (Nat → Option Addr) → Hp → β → α → Prop} {f : Rho → Om → RX α} {F : α → Om → OutS} {k : β → Hp → Prop} (ok : OkA K c C ad as G H ρ ω σ) (h : PostO K c C W G ad De ((f ρ ω).out ρ F))
    (hk : ∀ x ω1 ad1 as1 G1 H1 v, Same G G1 → Up ad ad1 → OkA K c C ad1 as1 G1 H1 ρ ω1 σ → Rel ad1 G1 v x → PostO K c C W G1 ad1 De (F x ω1) → k v H1) : tX K c C W Rel f σ H k := by
  refine ⟨ad, as, G, ρ, ω, ok, ?_⟩
  cases e : f ρ ω with
  | ok x ω1 =>
    rw [e] at h
    exact fun ad1 as1 G1 H1 v g u o r => hk x ω1 ad1 as1 G1 H1 v g u o r (PostO.gr (o := F x ω1) h g u)
  | rz z ω1 =>
    rw [e] at h
    exact fun ad1 as1 G1 H1 g u o => h ad1 as1 G1 H1 σ g u o
  | bad => rw [e] at h; exact h.elim
theorem OkA.end_ (ok : OkA K c C ad as G H ρ ω σ) : EndO K c C ad as G H ω := ⟨ok.up, ok.ok.e, ok.st, ok.nw⟩
theorem OkA.endB (ok : OkA K c C ad as G H ρ ω σ) (e : Gr G (hid (ols ρ σ) H) G' H') : EndO K c C ad as G' H' ω := ⟨ok.up, ok.entry.trans e, ok.storeB e, ok.nw⟩
theorem OkA.setD (ok : OkA K c C ad as G H ρ ω σ) (i : Nat) {v : V} {d : D} (q : Q K ⟨c.ns.l, ad⟩ G v d) : OkA K c C ad as G H (ρ.set i (.d d)) ω (σ.set i (some v)) := ok.leave (ok.enter.setD i q)
end
/-! ### what knows no objects -/
def lfS (f : Rho → Out) : Rho → Om → OutS := fun ρ ω => match f ρ with
  | .nx ρ' => .nx ρ' ω
  | .rt x => .rt x ω
  | .rf xs => .rt (.list xs) ω
  | .rz z ρ' => .rz z ρ' ω
  | .bk ρ' => .bk ρ' ω
  | .ct ρ' => .ct ρ' ω
  | .bad => .bad
theorem lfS_post {K : PySem.W.Frag} {c : Cm} {C : Addr} {W : WM} {ad : Nat → Option Addr} {as : List (Addr × List Addr)} {G H : Hp} {ρ : Rho} {ω : Om} {σ : L2.St} {De : Ends} {f : Rho → Out} (ok : OkA K c C ad as G H ρ ω σ) (p : PostO K c C W G ad De (lfS f ρ ω)) : tS K (cm c ad G (hid (ols ρ σ) H)) W f De σ H := by
  refine ⟨G, ρ, ok.enter, ?_⟩
  unfold lfS at p
  cases e : f ρ with
  | nx ρ' => rw [e] at p; exact fun G' H' σ' s o => p ad as G' H' σ' s (Up.refl ad) (ok.leave o)
  | rt x => rw [e] at p; exact fun G' H' v g q => p ad as G' H' v (ok.endB g) q
  | rf xs =>
    rw [e] at p
    exact fun G' H' a us g n h1 h2 q => p ad as (upd G' a (.lst us)) H' (.ref a) (ok.endB (g.seal n h1 h2)) (.lst upd_same (QA.mono (new_same h2) _ _ q))
  | rz z ρ' => rw [e] at p; exact fun G' H' σ' s o => p ad as G' H' σ' s (Up.refl ad) (ok.leave o)
  | bk ρ' => rw [e] at p; exact fun G' H' σ' s o => p ad as G' H' σ' s (Up.refl ad) (ok.leave o)
  | ct ρ' => rw [e] at p; exact fun G' H' σ' s o => p ad as G' H' σ' s (Up.refl ad) (ok.leave o)
  | bad => rw [e] at p; exact p
section
variable {X : Cx} {c : Cm} {C : Addr} {W : WM}
theorem mo_of {st : Stmt} {f : Rho → Out} (h : ∀ ad G0 H0, MS X ⟨⟨c.ns.l, ad⟩, G0, H0⟩ W st f) : MY X c C W st (lfS f) :=
  ⟨fun pins s σ H De I ⟨ad, as, G, ρ, ω, ok, p⟩ => (h ad G (hid (ols ρ σ) H)).run pins s σ H De I (lfS_post ok p)⟩
theorem mos_of {st : List Stmt} {f : Rho → Out} (h : ∀ ad G0 H0, MSs X ⟨⟨c.ns.l, ad⟩, G0, H0⟩ W st f) : MYs X c C W st (lfS f) :=
  ⟨fun pins s σ H De I ⟨ad, as, G, ρ, ω, ok, p⟩ => (h ad G (hid (ols ρ σ) H)).run pins s σ H De I (lfS_post ok p)⟩
/-! ### blocks -/
def oNil : Rho → Om → OutS := .nx
def oSeq (f g : Rho → Om → OutS) : Rho → Om → OutS := fun ρ ω => match f ρ ω with
  | .nx ρ' ω' => g ρ' ω'
  | .rt x ω' => .rt x ω'
  | .rz z ρ' ω' => .rz z ρ' ω'
  | .bk ρ' ω' => .bk ρ' ω'
  | .ct ρ' ω' => .ct ρ' ω'
  | .bad => .bad
theorem mos_nil : MYs X c C W [] oNil := PSs.imp pss_nil fun De σ H ⟨ad, as, G, ρ, ω, ok, p⟩ => p ad as G H σ (Same.refl G) (Up.refl ad) ok
theorem oseq_post {K : PySem.W.Frag} {G : Hp} {ad : Nat → Option Addr} {De : Ends} {f g : Rho → Om → OutS} {ρ : Rho} {ω : Om} (p : PostO K c C W G ad De (oSeq f g ρ ω)) : PostO K c C W G ad { De with nx := tO K c C W g De } (f ρ ω) := by
  unfold oSeq at p
  cases e : f ρ ω with
  | nx ρ' ω' =>
    rw [e] at p
    exact fun ad' as' G' H' σ s u ok => ⟨ad', as', G', ρ', ω', ok, PostO.gr (o := g ρ' ω') p s u⟩
  | rt x ω' => rw [e] at p; exact p
  | rz z ρ' ω' => rw [e] at p; exact p
  | bk ρ' ω' => rw [e] at p; exact p
  | ct ρ' ω' => rw [e] at p; exact p
  | bad => rw [e] at p; exact p
theorem mos_cons {st : Stmt} {rest : List Stmt} {f g : Rho → Om → OutS} (h1 : MY X c C W st f) (h2 : MYs X c C W rest g) : MYs X c C W (st :: rest) (oSeq f g) :=
  PSs.imp (pss_cons h1 h2) fun De σ H ⟨ad, as, G, ρ, ω, ok, p⟩ => ⟨ad, as, G, ρ, ω, ok, oseq_post p⟩
theorem mos_one {st : Stmt} {f : Rho → Om → OutS} (h : MY X c C W st f) : MYs X c C W [st] f := pss_one h
/-! ### small statements -/
def oSet (i : Nat) (f : Rho → Om → RX D) : Rho → Om → OutS := fun ρ ω => (f ρ ω).out ρ fun x ω1 => .nx (ρ.set i (.d x)) ω1
theorem mo_set {i : Nat} {x : Str} {e : Expr} {f : Rho → Om → RX D} {pos pos' : Pos} (hN : X.N.Nodup) (hi : X.N[i]? = some x) (hx : Loc X.env.scope x) (he : MX X c C W e f) (hs : swapsWith e (some (.Name x pos')) pos.line X.env = pure false := by rfl) (hf : X.fn x = true ∨ X.env.scope.names.lookup x = some .local := by first | exact .inl rfl | exact .inr rfl | assumption) :
    MY X c C W (.Assign [.Name x pos'] e pos) (oSet i f) := PS.imp (ps_set hN hi hx he hs hf) fun De σ H ⟨ad, as, G, ρ, ω, ok, p⟩ => stepO ok p fun x ω1 ad1 as1 G1 H1 v g1 u1 ok1 r1 p1 => p1 ad1 as1 G1 H1 _ (Same.refl G1) (Up.refl ad1) (ok1.setD i r1)
def oRet (f : Rho → Om → RX D) : Rho → Om → OutS := fun ρ ω => (f ρ ω).out ρ fun x ω1 => .rt x ω1
theorem mo_ret {e : Expr} {f : Rho → Om → RX D} {pos : Pos} (he : MX X c C W e f) : MY X c C W (.Return (some e) pos) (oRet f) :=
  PS.imp (ps_ret he) fun De σ H ⟨ad, as, G, ρ, ω, ok, p⟩ => stepO ok p fun x ω1 ad1 as1 G1 H1 v g1 u1 ok1 r1 p1 => p1 ad1 as1 G1 H1 v ok1.end_ r1
def oDrop (f : Rho → Om → RX D) : Rho → Om → OutS := fun ρ ω => (f ρ ω).out ρ fun _ ω1 => .nx ρ ω1
theorem mo_expr {e : Expr} {f : Rho → Om → RX D} {pos : Pos} (he : MX X c C W e f) (hs : swapsWith e none pos.line X.env = pure false := by rfl) : MY X c C W (.Expr e pos) (oDrop f) :=
  PS.imp (ps_expr he hs) fun De σ H ⟨ad, as, G, ρ, ω, ok, p⟩ => stepO ok p fun x ω1 ad1 as1 G1 H1 v g1 u1 ok1 r1 p1 => p1 ad1 as1 G1 H1 σ (Same.refl G1) (Up.refl ad1) ok1
def oIf (t : Rho → Om → RX Bool) (f g : Rho → Om → OutS) : Rho → Om → OutS := fun ρ ω => (t ρ ω).out ρ fun b ω1 => if b then f ρ ω1 else g ρ ω1
theorem mo_if {t : Expr} {a b : List Stmt} {ft : Rho → Om → RX Bool} {f g : Rho → Om → OutS} {pos : Pos} (ht : MTX X c C W t ft) (ha : MYs X c C W a f) (hb : MYs X c C W b g) : MY X c C W (.If t a b pos) (oIf ft f g) :=
  PS.imp (ps_if ht ha hb) fun De σ H ⟨ad, as, G, ρ, ω, ok, p⟩ => stepO ok p fun x ω1 ad1 as1 G1 H1 v g1 u1 ok1 r1 p1 => by
    subst r1
    cases v with
    | true => exact ⟨ad1, as1, G1, ρ, ω1, ok1, p1⟩
    | false => exact ⟨ad1, as1, G1, ρ, ω1, ok1, p1⟩
def oRaise (z : Str) : Rho → Om → OutS := fun ρ ω => .rz z ρ ω
def oUnp (b : D → Rho → Option Rho) (f : Rho → Om → RX D) : Rho → Om → OutS := fun ρ ω => (f ρ ω).out ρ fun d ω1 => match b d ρ with
  | some ρ' => .nx ρ' ω1
  | none => .bad
theorem mo_unp {tg e : Expr} {f : Rho → Om → RX D} {g : TG} {b : D → Rho → Option Rho} {vs : List Nat} {pos : Pos} (he : MX X c C W e f) (hg : PG X tg g) (tk : ∀ ad G0 H0, TgOk X ⟨⟨c.ns.l, ad⟩, G0, H0⟩ vs g b) (hs : swapsWithSole [tg] e pos.line X.env = pure false := by rfl) (hw : swappedStores [tg] e X.env = pure none := by rfl)
    (h1 : (assignEach [tg] X.env).map (·.2) = [assign tg X.env] := by rfl) : MY X c C W (.Assign [tg] e pos) (oUnp b f) :=
  PS.imp (ps_asg he hg hs hw h1) fun De σ H ⟨ad, as, G, ρ, ω, ok, p⟩ => stepO ok p fun d ω1 ad1 as1 G1 H1 v g1 u1 ok1 r1 p1 => by
    cases eb : b d ρ with
    | none => rw [eb] at p1; exact p1.elim
    | some ρ' =>
      rw [eb] at p1
      exact tk ad1 G1 (hid (ols ρ σ) H1) G1 H1 σ ρ v d ρ' _ ok1.enter r1 eb fun σ' ok' _ => p1 ad1 as1 G1 H1 σ' (Same.refl G1) (Up.refl ad1) (ok1.leave ok')
def oPar (i j : Nat) (f g : Rho → Om → RX D) : Rho → Om → OutS := fun ρ ω => (f ρ ω).out ρ fun x ω1 => (g ρ ω1).out ρ fun y ω2 => .nx ((ρ.set i (.d x)).set j (.d y)) ω2
theorem mo_par {i j : Nat} {x y : Str} {a b : Expr} {f g : Rho → Om → RX D} {px py pt pos : Pos} {kt k2 pt2} (hc : X.calm = true) (hN : X.N.Nodup) (hi : X.N[i]? = some x) (hj : X.N[j]? = some y) (hij : i ≠ j)
    (hx : X.env.scope.names.lookup x = some .local) (hy : X.env.scope.names.lookup y = some .local) (ha : MX X c C W a f) (hb : MX X c C W b g)
    (hw : swappedStores [.Tuple [.Name x px, .Name y py] kt pt] (.Tuple [a, b] k2 pt2) X.env = pure (some [x, y]))
    (hs : swapsWithSole [.Tuple [.Name x px, .Name y py] kt pt] (.Tuple [a, b] k2 pt2) pos.line X.env = pure false := by rfl) (s1 : starEach [a, b] X.env = (false, eval a X.env) :: starEach [b] X.env := by rfl) (s2 : starEach [b] X.env = (false, eval b X.env) :: starEach [] X.env := by rfl) :
    MY X c C W (.Assign [.Tuple [.Name x px, .Name y py] kt pt] (.Tuple [a, b] k2 pt2) pos) (oPar i j f g) :=
  PS.imp (ps_par hc hN hi hj hij hx hy (pa_cons ha (pa_cons hb pa_nil s2) s1) hw hs) fun De σ H ⟨ad, as, G, ρ, ω, ok, p⟩ => stepO ok p fun x ω1 ad1 as1 G1 H1 v g1 u1 ok1 r1 p1 => stepO ok1 p1 fun y ω2 ad2 as2 G2 H2 w g2 u2 ok2 r2 p2 =>
    ⟨v, w, rfl, p2 ad2 as2 G2 H2 _ (Same.refl G2) (Up.refl ad2) ((ok2.setD i (Q.mono g2 _ _ (Q.up u2 _ _ r1))).setD j r2)⟩
def oPar3 (i j k : Nat) (f g h : Rho → Om → RX D) : Rho → Om → OutS := fun ρ ω => (f ρ ω).out ρ fun x ω1 => (g ρ ω1).out ρ fun y ω2 => (h ρ ω2).out ρ fun z ω3 => .nx (((ρ.set i (.d x)).set j (.d y)).set k (.d z)) ω3
theorem mo_par3 {i j l : Nat} {x y z : Str} {a b d : Expr} {f g h : Rho → Om → RX D} {px py pz pt pos : Pos} {kt k2 pt2} (hc : X.calm = true) (hN : X.N.Nodup) (hi : X.N[i]? = some x) (hj : X.N[j]? = some y) (hl : X.N[l]? = some z) (hij : i ≠ j) (hil : i ≠ l) (hjl : j ≠ l)
    (hx : X.env.scope.names.lookup x = some .local) (hy : X.env.scope.names.lookup y = some .local) (hz : X.env.scope.names.lookup z = some .local) (ha : MX X c C W a f) (hb : MX X c C W b g) (hd : MX X c C W d h)
    (hw : swappedStores [.Tuple [.Name x px, .Name y py, .Name z pz] kt pt] (.Tuple [a, b, d] k2 pt2) X.env = pure (some [x, y, z]))
    (hs : swapsWithSole [.Tuple [.Name x px, .Name y py, .Name z pz] kt pt] (.Tuple [a, b, d] k2 pt2) pos.line X.env = pure false := by rfl) (s1 : starEach [a, b, d] X.env = (false, eval a X.env) :: starEach [b, d] X.env := by rfl) (s2 : starEach [b, d] X.env = (false, eval b X.env) :: starEach [d] X.env := by rfl) (s3 : starEach [d] X.env = (false, eval d X.env) :: starEach [] X.env := by rfl) :
    MY X c C W (.Assign [.Tuple [.Name x px, .Name y py, .Name z pz] kt pt] (.Tuple [a, b, d] k2 pt2) pos) (oPar3 i j l f g h) :=
  PS.imp (ps_par3 hc hN hi hj hl hij hil hjl hx hy hz (pa_cons ha (pa_cons hb (pa_cons hd pa_nil s3) s2) s1) hw hs) fun De σ H ⟨ad, as, G, ρ, ω, ok, p⟩ => stepO ok p fun x ω1 ad1 as1 G1 H1 v g1 u1 ok1 r1 p1 => stepO ok1 p1 fun y ω2 ad2 as2 G2 H2 w g2 u2 ok2 r2 p2 => stepO ok2 p2 fun z ω3 ad3 as3 G3 H3 w3 g3 u3 ok3 r3 p3 =>
    ⟨v, w, w3, rfl, p3 ad3 as3 G3 H3 _ (Same.refl G3) (Up.refl ad3) (((ok3.setD i (Q.mono (g2.trans g3) _ _ (Q.up (u2.trans u3) _ _ r1))).setD j (Q.mono g3 _ _ (Q.up u3 _ _ r2))).setD l r3)⟩
/-! ### for -/
def forO (b : D → Rho → Option Rho) (body : Rho → Om → OutS) : List D → Rho → Om → OutS
  | [], ρ, ω => .nx ρ ω
  | x :: xs, ρ, ω => match b x ρ with
    | none => .bad
    | some ρ1 => match body ρ1 ω with
      | .nx ρ' ω' => forO b body xs ρ' ω'
      | .ct ρ' ω' => forO b body xs ρ' ω'
      | .bk ρ' ω' => .nx ρ' ω'
      | .rt x ω' => .rt x ω'
      | .rz z ρ' ω' => .rz z ρ' ω'
      | .bad => .bad
def oFor (it : Rho → R (List D)) (b : D → Rho → Option Rho) (body : Rho → Om → OutS) : Rho → Om → OutS := fun ρ ω => match it ρ with
  | .ok xs => forO b body xs ρ ω
  | .rz z => .rz z ρ ω
  | .bad => .bad
theorem mo_for {tg iter : Expr} {body : List Stmt} {it : Rho → R (List D)} {g : TG} {b : D → Rho → Option Rho} {fb : Rho → Om → OutS} {vs : List Nat} {pos : Pos} (hp : PassesOwn (model X.prog X.w) X.A X.env X.xe) (hc : X.calm = true) (hi : ∀ ad G0 H0, MI X ⟨⟨c.ns.l, ad⟩, G0, H0⟩ W tg iter it) (hg : PG X tg g) (tk : ∀ ad G0 H0, TgOk X ⟨⟨c.ns.l, ad⟩, G0, H0⟩ vs g b) (hb : MYs X c C W body fb)
    (hs : ∀ x, foldedSetIterable iter X.env x = pure x := by intro _; rfl) : MY X c C W (.For tg iter body [] pos) (oFor it b fb) := ⟨fun pins s σ H De I ⟨ad, as, G, ρ, ω, ok, p⟩ => by
  have base := ps_for (pos := pos) hp hc (hi ad G (hid (ols ρ σ) H)) hg hb hs
  refine base.run pins s σ H De I ⟨G, ρ, ok.enter, ?_⟩
  unfold oFor at p
  cases ei : it ρ with
  | bad => rw [ei] at p; exact p
  | rz z => rw [ei] at p; exact fun G' H' gr => p ad as G' H' σ gr.g (Up.refl ad) (ok.gr gr)
  | ok xs =>
    rw [ei] at p
    intro G1 H1 J P g1 I pG
    have ok1 := ok.gr g1
    have p1 : PostO X.K c C W G1 ad De (forO b fb xs ρ ω) := PostO.gr p g1.g (Up.refl ad)
    refine ⟨fun i m σ H => i ≤ xs.length ∧ m = xs.length - i ∧ ∃ ad' as' G ρ ω, Up ad ad' ∧ OkA X.K c C ad' as' G H ρ ω σ ∧ P G ∧ PostO X.K c C W G ad' De (forO b fb (xs.drop i) ρ ω), ⟨xs.length, Nat.zero_le _, by simp, ad, as, G1, ρ, ω, Up.refl ad, ok1, pG, p1⟩, ?_⟩
    rintro i m σ H ⟨hi, rfl, ad', as', G, ρ, ω, u, ok, pG, p⟩
    by_cases hlt : i < xs.length
    · have ed : xs.drop i = xs[i] :: xs.drop (i + 1) := List.drop_eq_getElem_cons hlt
      have ex : xs[i]? = some xs[i] := List.getElem?_eq_getElem hlt
      rw [ed] at p
      refine .inr ⟨I.go G H i _ pG ok.s ex, fun σ' H' => ∃ ad' as' G ρ ω, Up ad ad' ∧ OkA X.K c C ad' as' G H' ρ ω σ' ∧ P G ∧ PostO X.K c C W G ad' De (forO b fb (xs.drop (i + 1)) ρ ω), fun σ' H' n => ⟨xs.length - (i + 1), by omega, hlt, rfl, n⟩, fun x H' y => ?_⟩
      obtain ⟨G', gr, q⟩ := I.yld G H i _ x H' pG ok.s ex y
      have ok' := ok.gr gr
      unfold forO at p
      cases eb : b xs[i] ρ with
      | none => rw [eb] at p; exact p.elim
      | some ρ1 =>
        rw [eb] at p
        dsimp only at p
        refine tk ad' G' (hid (ols ρ σ) H') G' H' σ ρ x _ ρ1 _ ok'.enter (Q.up u _ _ q) eb fun σ' ok2 _ => ⟨ad', as', G', ρ1, ω, ok'.leave ok2, ?_⟩
        have pG' := I.mono G G' gr.g pG
        cases eo : fb ρ1 ω with
        | nx ρ2 ω2 =>
          rw [eo] at p
          exact fun ad2 as2 G2 H2 σ2 s u2 ok3 => ⟨ad2, as2, G2, ρ2, ω2, u.trans u2, ok3, I.mono _ _ s pG', PostO.gr (o := forO b fb (xs.drop (i + 1)) ρ2 ω2) p (gr.g.trans s) u2⟩
        | ct ρ2 ω2 =>
          rw [eo] at p
          exact fun ad2 as2 G2 H2 σ2 s u2 ok3 => ⟨ad2, as2, G2, ρ2, ω2, u.trans u2, ok3, I.mono _ _ s pG', PostO.gr (o := forO b fb (xs.drop (i + 1)) ρ2 ω2) p (gr.g.trans s) u2⟩
        | bk ρ2 ω2 =>
          rw [eo] at p
          exact fun ad2 as2 G2 H2 σ2 s u2 ok3 => p ad2 as2 G2 H2 σ2 (gr.g.trans s) u2 ok3
        | rt x ω2 => rw [eo] at p; exact p
        | rz z ρ2 ω2 =>
          rw [eo] at p
          exact fun ad2 as2 G2 H2 σ2 s u2 ok3 => p ad2 as2 G2 H2 σ2 (gr.g.trans s) u2 ok3
        | bad => rw [eo] at p; exact p
    · have e : i = xs.length := by omega
      subst e
      rw [List.drop_length] at p
      exact .inl ⟨I.stop G H pG ok.s, p ad' as' G H σ (Same.refl G) (Up.refl ad') ok⟩⟩
end
end M

/-! fields of objects -/
namespace M
open PySem PySem.Spec PyProof.Rows L2
def objN : D → Option Nat
  | .dict [(.bool false, .int (Int.ofNat j))] => some j
  | _ => none
def obAt (i : Nat) (ρ : Rho) : Option Nat := match ρ[i]? with
  | some (.d x) => objN x
  | _ => none
/-- the state of the object that a slot names -/
def obS (i : Nat) (ρ : Rho) (ω : Om) : Option (Nat × Ob) := match obAt i ρ with
  | some j => (ω[j]?).map fun s => (j, s)
  | none => none
def putFl (f : Str) (x : Fl) : Ob → Ob
  | [] => [(f, x)]
  | (g, y) :: r => if g = f then (g, x) :: r else (g, y) :: putFl f x r
theorem objN_eq {x : D} {j : Nat} (h : objN x = some j) : x = OBJ j := by
  unfold objN at h
  split at h
  · cases h; rfl
  · cases h
theorem Q.objI {K : PySem.W.Frag} {ns : Sc} {G : Hp} {v : V} {j : Nat} (q : Q K ns G v (OBJ j)) : ∃ a, v = .ref a ∧ ns.ad j = some a := by
  cases q with
  | obj j' h1 h2 =>
    simp only [List.cons.injEq, Prod.mk.injEq, PyData.int.injEq, true_and, and_true] at h2
    have : j = j' := by omega
    subst this
    exact ⟨_, rfl, h1⟩
  | dk ks h1 h2 => cases ks <;> cases h2
  | dt ks h1 h2 => cases ks <;> cases h2
section
variable {K : PySem.W.Frag} {ns : Sc} {c : Cm} {C : Addr} {W : WM} {ad : Nat → Option Addr} {as : List (Addr × List Addr)} {G H G' H' : Hp} {ρ : Rho} {ω : Om} {σ : L2.St}
theorem Store.obj {j : Nat} {s : Ob} {a : Addr} (S : Store K ns C G H as ω) (hs : ω[j]? = some s) (ha : ns.ad j = some a) : ∃ p, as[j]? = some p ∧ p.1 = a ∧ ObAt K ns C G H p s := by
  have hlt : j < as.length := by rw [S.len]; exact (List.getElem?_eq_some_iff.mp hs).1
  refine ⟨as[j], List.getElem?_eq_getElem hlt, ?_, S.at_ j _ s (List.getElem?_eq_getElem hlt) hs⟩
  have := S.ad j _ (List.getElem?_eq_getElem hlt)
  rw [ha] at this
  cases this
  rfl
theorem OkA.obj {i j : Nat} {s : Ob} (ok : OkA K c C ad as G H ρ ω σ) (h : obS i ρ ω = some (j, s)) : ∃ p, as[j]? = some p ∧ ω[j]? = some s ∧ ρ[i]? = some (.d (OBJ j)) ∧ σ[i]? = some (some (.ref p.1)) ∧ ad j = some p.1 ∧ ObAt K ⟨c.ns.l, ad⟩ C G H p s := by
  unfold obS at h
  split at h
  · rename_i j' hj
    cases hw : ω[j']? with
    | none => rw [hw] at h; cases h
    | some s' =>
      rw [hw] at h
      cases h
      unfold obAt at hj
      split at hj
      · rename_i x hx
        obtain rfl := objN_eq hj
        obtain ⟨u, e, q⟩ := ok.ok.sl i _ hx
        obtain ⟨a, rfl, ha⟩ := q.objI
        obtain ⟨p, hp, rfl, ho⟩ := ok.st.obj hw ha
        exact ⟨p, hp, hw, hx, e, ha, ho⟩
      · cases hj
  · cases h
theorem FsOk.get {fs : List (Str × V)} {s : Ob} {bs : List Addr} (h : FsOk K ns G H fs s bs) {f : Str} {x : D} (e : s.lookup f = some (.d x)) : ∃ v, fs.lookup f = some v ∧ Q K ns G v x := by
  induction h with
  | nil => cases e
  | @d g v y fs s bs q _ ih =>
    rw [List.lookup_cons] at e ⊢
    cases hb : f == g with
    | true => rw [hb] at e; cases e; exact ⟨_, rfl, q⟩
    | false => rw [hb] at e; exact ih e
  | @o g b us xs fs s bs h1 q _ ih =>
    rw [List.lookup_cons] at e ⊢
    cases hb : f == g with
    | true => rw [hb] at e; cases e
    | false => rw [hb] at e; exact ih e
theorem FsOk.getO {fs : List (Str × V)} {s : Ob} {bs : List Addr} (h : FsOk K ns G H fs s bs) {f : Str} {xs : List D} (e : s.lookup f = some (.o xs)) : ∃ b us, fs.lookup f = some (.ref b) ∧ b ∈ bs ∧ H b = some (.lst us) ∧ QA K ns G us xs := by
  induction h with
  | nil => cases e
  | @d g v y fs s bs q _ ih =>
    rw [List.lookup_cons] at e ⊢
    cases hb : f == g with
    | true => rw [hb] at e; cases e
    | false => rw [hb] at e; exact ih e
  | @o g b us xs fs s bs h1 q _ ih =>
    rw [List.lookup_cons] at e ⊢
    cases hb : f == g with
    | true => rw [hb] at e; cases e; exact ⟨_, _, rfl, List.mem_cons_self, h1, q⟩
    | false =>
      rw [hb] at e
      obtain ⟨b', us', h2, h3, h4⟩ := ih e
      exact ⟨b', us', h2, List.mem_cons_of_mem _ h3, h4⟩
theorem FsOk.noneI {fs : List (Str × V)} {s : Ob} {bs : List Addr} (h : FsOk K ns G H fs s bs) {f : Str} (e : s.lookup f = none) : fs.lookup f = none := by
  induction h with
  | nil => rfl
  | @d g v y fs s bs q _ ih =>
    rw [List.lookup_cons] at e ⊢
    cases hb : f == g with
    | true => rw [hb] at e; cases e
    | false => rw [hb] at e; exact ih e
  | @o g b us xs fs s bs h1 q _ ih =>
    rw [List.lookup_cons] at e ⊢
    cases hb : f == g with
    | true => rw [hb] at e; cases e
    | false => rw [hb] at e; exact ih e
theorem FsOk.len {fs : List (Str × V)} {s : Ob} {bs : List Addr} (h : FsOk K ns G H fs s bs) : fs.length = s.length := by
  induction h with
  | nil => rfl
  | d _ _ ih => simp [ih]
  | o _ _ _ ih => simp [ih]
theorem FsOk.putD {fs : List (Str × V)} {s : Ob} {bs : List Addr} (h : FsOk K ns G H fs s bs) (f : Str) {v : V} {x : D} (q : Q K ns G v x) : ∃ bs', FsOk K ns G H (putF f v fs) (putFl f (.d x) s) bs' ∧ bs'.Sublist bs := by
  induction h with
  | nil => exact ⟨[], .d q .nil, List.Sublist.refl _⟩
  | @d g w y fs s bs q' t ih =>
    unfold putF putFl
    by_cases hg : g = f
    · rw [if_pos hg, if_pos hg]; exact ⟨bs, .d q t, List.Sublist.refl _⟩
    · rw [if_neg hg, if_neg hg]
      obtain ⟨bs', h1, h2⟩ := ih
      exact ⟨bs', .d q' h1, h2⟩
  | @o g b us xs fs s bs h1 q' t ih =>
    unfold putF putFl
    by_cases hg : g = f
    · rw [if_pos hg, if_pos hg]; exact ⟨bs, .d q t, List.sublist_cons_self _ _⟩
    · rw [if_neg hg, if_neg hg]
      obtain ⟨bs', h2, h3⟩ := ih
      exact ⟨b :: bs', .o h1 q' h2, h3.cons₂ _⟩
theorem FsOk.putO {fs : List (Str × V)} {s : Ob} {bs : List Addr} (h : FsOk K ns G H fs s bs) (f : Str) {b : Addr} {us : List V} {xs : List D} (hb : H b = some (.lst us)) (q : QA K ns G us xs) (nb : b ∉ bs) (nd : bs.Nodup) : ∃ bs', FsOk K ns G H (putF f (.ref b) fs) (putFl f (.o xs) s) bs' ∧ bs'.Nodup ∧ ∀ y ∈ bs', y ∈ bs ∨ y = b := by
  induction h with
  | nil => exact ⟨[b], .o hb q .nil, by simp, fun y hy => .inr (List.mem_singleton.mp hy)⟩
  | @d g w y fs s bs q' t ih =>
    unfold putF putFl
    by_cases hg : g = f
    · rw [if_pos hg, if_pos hg]
      exact ⟨b :: bs, .o hb q t, List.nodup_cons.mpr ⟨nb, nd⟩, fun y hy => (List.mem_cons.mp hy).elim .inr .inl⟩
    · rw [if_neg hg, if_neg hg]
      obtain ⟨bs', h1, h2, h3⟩ := ih nb nd
      exact ⟨bs', .d q' h1, h2, h3⟩
  | @o g b' us' xs' fs s bs h1 q' t ih =>
    unfold putF putFl
    have nd' := List.nodup_cons.mp nd
    have nb' : b ∉ bs := fun z => nb (List.mem_cons_of_mem _ z)
    by_cases hg : g = f
    · rw [if_pos hg, if_pos hg]
      exact ⟨b :: bs, .o hb q t, List.nodup_cons.mpr ⟨nb', nd'.2⟩, fun y hy => (List.mem_cons.mp hy).elim .inr fun z => .inl (List.mem_cons_of_mem _ z)⟩
    · rw [if_neg hg, if_neg hg]
      obtain ⟨bs', h2, h3, h4⟩ := ih nb' nd'.2
      refine ⟨b' :: bs', .o h1 q' h2, List.nodup_cons.mpr ⟨fun z => ?_, h3⟩, fun y hy => ?_⟩
      · rcases h4 _ z with z | z
        · exact nd'.1 z
        · exact nb (by rw [← z]; exact List.mem_cons_self)
      · rcases List.mem_cons.mp hy with rfl | hy
        · exact .inl List.mem_cons_self
        · exact (h4 y hy).imp (List.mem_cons_of_mem _) id
/-- a list of the object's own changes -/
theorem FsOk.wr {fs : List (Str × V)} {s : Ob} {bs : List Addr} (h : FsOk K ns G H fs s bs) {f : Str} {xs xs' : List D} (e : s.lookup f = some (.o xs)) {b : Addr} (eb : fs.lookup f = some (.ref b)) (nd : bs.Nodup) {us' : List V} (q : QA K ns G us' xs') : FsOk K ns G (upd H b (.lst us')) fs (putFl f (.o xs') s) bs := by
  have away : ∀ {fs : List (Str × V)} {s : Ob} {bs : List Addr}, FsOk K ns G H fs s bs → b ∉ bs → FsOk K ns G (upd H b (.lst us')) fs s bs := fun {fs s bs} h => by
    induction h with
    | nil => exact fun _ => .nil
    | d q _ ih => exact fun n => .d q (ih n)
    | o h1 q _ ih => exact fun n => .o (by rw [upd_ne (fun z => n (by rw [← z]; exact List.mem_cons_self))]; exact h1) q (ih fun z => n (List.mem_cons_of_mem _ z))
  induction h with
  | nil => cases e
  | @d g v y fs s bs q' t ih =>
    rw [List.lookup_cons] at e eb
    cases hb : f == g with
    | true => rw [hb] at e; cases e
    | false =>
      rw [hb] at e eb
      have hg : ¬ g = f := fun z => by subst z; simp at hb
      unfold putFl
      rw [if_neg hg]
      exact .d q' (ih e eb nd)
  | @o g b' us ys fs s bs h1 q' t ih =>
    rw [List.lookup_cons] at e eb
    have nd' := List.nodup_cons.mp nd
    cases hb : f == g with
    | true =>
      rw [hb] at e eb
      cases eb
      have hg : g = f := (beq_iff_eq.mp hb).symm
      unfold putFl
      rw [if_pos hg]
      exact .o upd_same q (away t nd'.1)
    | false =>
      rw [hb] at e eb
      dsimp only at e eb
      have hg : ¬ g = f := fun z => by subst z; simp at hb
      unfold putFl
      rw [if_neg hg]
      obtain ⟨b2, us2, e2, m2, _⟩ := t.getO e
      rw [eb] at e2
      cases e2
      have nbb : b' ≠ b := fun z => nd'.1 (by rw [z]; exact m2)
      exact .o (by rw [upd_ne nbb]; exact h1) q' (ih e eb nd'.2)
/-- one object anew -/
theorem Store.set {j : Nat} {p : Addr × List Addr} {bs' : List Addr} {s' : Ob} (S : Store K ns C G H as ω) (hp : as[j]? = some p) (g : Same G G') (ob : ObAt K ns C G' H' (p.1, bs') s') (nd : (p.1 :: bs').Nodup) (hb : ∀ b ∈ bs', b ∈ p.2 ∨ b ∉ ows as) (hG : ∀ b ∈ ows as, G' b = none) (hG2 : ∀ b ∈ bs', G' b = none)
    (keep : ∀ b ∈ ows as, b ∉ p.1 :: p.2 → ∀ o, H b = some o → H' b = some o) : Store K ns C G' H' (as.set j (p.1, bs')) (ω.set j s') := by
  have hjl : j < as.length := (List.getElem?_eq_some_iff.mp hp).1
  have low : ∀ (k : Nat) (q : Addr × List Addr), (as.set j (p.1, bs'))[k]? = some q → (k = j ∧ q = (p.1, bs')) ∨ (k ≠ j ∧ as[k]? = some q) := fun k q e => by
    by_cases hk : j = k
    · subst hk
      rw [List.getElem?_set_self hjl] at e
      cases e
      exact .inl ⟨rfl, rfl⟩
    · rw [List.getElem?_set_ne hk] at e
      exact .inr ⟨fun z => hk z.symm, e⟩
  have mem : ∀ {k : Nat} {q : Addr × List Addr} {b : Addr}, as[k]? = some q → b ∈ q.1 :: q.2 → b ∈ ows as := fun {k q b} e m => mem_ows.mpr ⟨q, List.mem_of_getElem? e, List.mem_cons.mp m⟩
  refine ⟨by simp [S.len], fun k q s e es => ?_, fun k q e => ?_, fun k k' q q' b hne e e' m m' => ?_, fun b hb' => ?_, fun k q e => ?_, fun k hk => S.fr k (by simpa using hk)⟩
  · rcases low k q e with ⟨rfl, rfl⟩ | ⟨hk, e⟩
    · rw [List.getElem?_set_self (by rw [← S.len]; exact hjl)] at es
      cases es
      exact ob
    · rw [List.getElem?_set_ne (fun z => hk z.symm)] at es
      obtain ⟨dx, fs, h1, h2⟩ := S.at_ k q s e es
      have away : ∀ b ∈ q.1 :: q.2, ∀ o, H b = some o → H' b = some o := fun b m o z => keep b (mem e m) (fun y => S.dis k j q p b hk e hp m y) o z
      exact ⟨dx, fs, away _ List.mem_cons_self _ h1, h2.mono (ad := ns.ad) (l := ns.l) (Up.refl _) g fun b m us z => away b (List.mem_cons_of_mem _ m) _ z⟩
  · rcases low k q e with ⟨rfl, rfl⟩ | ⟨hk, e⟩
    · exact nd
    · exact S.nd k q e
  · have cross : ∀ (k : Nat) (q : Addr × List Addr), k ≠ j → as[k]? = some q → ∀ b, b ∈ q.1 :: q.2 → b ∈ p.1 :: bs' → False := fun k q hk e b m m' => by
      rcases List.mem_cons.mp m' with z | z
      · exact S.dis k j q p b hk e hp m (by rw [z]; exact List.mem_cons_self)
      · rcases hb b z with y | y
        · exact S.dis k j q p b hk e hp m (List.mem_cons_of_mem _ y)
        · exact y (mem e m)
    rcases low k q e with ⟨z1, z2⟩ | ⟨hk, e1⟩
    · rcases low k' q' e' with ⟨z3, z4⟩ | ⟨hk', e2⟩
      · exact hne (z1.trans z3.symm)
      · exact cross k' q' hk' e2 b m' (by rw [z2] at m; exact m)
    · rcases low k' q' e' with ⟨z3, z4⟩ | ⟨hk', e2⟩
      · exact cross k q hk e1 b m (by rw [z4] at m'; exact m')
      · exact S.dis k k' q q' b hne e1 e2 m m'
  · obtain ⟨q, hq, m⟩ := mem_ows.mp hb'
    obtain ⟨k, e⟩ := List.getElem?_of_mem hq
    rcases low k q e with ⟨rfl, rfl⟩ | ⟨hk, e⟩
    · rcases m with rfl | m
      · exact hG _ (mem hp List.mem_cons_self)
      · exact hG2 b m
    · exact hG b (mem e (List.mem_cons.mpr m))
  · rcases low k q e with ⟨rfl, rfl⟩ | ⟨hk, e⟩
    · exact S.ad _ p hp
    · exact S.ad k q e
theorem ows_set {j : Nat} {p : Addr × List Addr} {bs' : List Addr} {b : Addr} (hp : as[j]? = some p) (h : b ∈ ows (as.set j (p.1, bs'))) : b ∈ ows as ∨ b ∈ bs' := by
  obtain ⟨q, hq, m⟩ := mem_ows.mp h
  rcases List.mem_or_eq_of_mem_set hq with z | z
  · exact .inl (mem_ows.mpr ⟨q, z, m⟩)
  · subst z
    rcases m with rfl | m
    · exact .inl (mem_ows.mpr ⟨p, List.mem_of_getElem? hp, .inl rfl⟩)
    · exact .inr m
/-- what is owned may change -/
theorem Gr.owned {os : List Addr} (s : Sub G H) (hG : ∀ b ∈ os, G b = none) (k : ∀ b, b ∉ os → ∀ o, H b = some o → H' b = some o) : Gr G (hid os H) G H' := by
  have e : Same (hid os H) H' := fun b o z => by
    by_cases hb : b ∈ os
    · rw [hid_in hb] at z; cases z
    · rw [hid_ne hb] at z; exact k b hb o z
  refine ⟨Same.refl G, .of e, fun b o z => ⟨?_, (s b o z).2⟩, fun _ _ _ _ h => h⟩
  exact k b (fun y => by rw [hG b y] at z; cases z) o (s b o z).1
end
/-! ### the rules -/
def xfld (i : Nat) (f : Str) : Rho → Om → RX D := fun ρ ω => match obS i ρ ω with
  | some (_, s) => (match s.lookup f with
    | some (.d x) => .ok x ω
    | _ => .bad)
  | none => .bad
section
variable {X : Cx} {c : Cm} {C : Addr} {W : WM}
theorem fld_at {K : PySem.W.Frag} {i j : Nat} {f : Str} {s : Ob} {x : D} {ad : Nat → Option Addr} {as : List (Addr × List Addr)} {G H : Hp} {ρ : Rho} {ω : Om} {σ : L2.St} {Q' : VK} (ok : OkA K c C ad as G H ρ ω σ) (cl : Cls K C) (nf : NoAttr K C f) (h : obS i ρ ω = some (j, s)) (e : s.lookup f = some (.d x)) (k : ∀ v, Q K ⟨c.ns.l, ad⟩ G v x → Q' v H) : tFld K (tVar i) f σ H Q' := by
  obtain ⟨p, hp, hw, hr, hs, ha, dx, fs, h1, h2⟩ := ok.obj h
  obtain ⟨v, hv, q⟩ := h2.get e
  exact ⟨_, hs, _, C, dx, fs, v, rfl, h1, cl, nf, hv, k v q⟩
theorem mx_fld (i : Nat) {o : Expr} {f : Str} {pos : Pos} (ho : PE X o (tVar i)) (cl : Cls X.K C) (nf : NoAttr X.K C f) (hb : attributeBase o f X.env (eval o X.env) = eval o X.env := by rfl) : MX X c C W (.Attribute o f pos) (xfld i f) :=
  PE.imp (pe_fld ho hb) fun σ H Qk ⟨ad, as, G, ρ, ω, ok, p⟩ => by
    unfold xfld at p
    cases e : obS i ρ ω with
    | none => rw [e] at p; exact p.elim
    | some q =>
      obtain ⟨j, s⟩ := q
      rw [e] at p
      dsimp only at p
      split at p
      · rename_i x hx
        exact fld_at ok cl nf e hx fun v q => PostX.done (Rel := XQ X.K c.ns.l) (x := x) ok p (Gr.refl ok.s) q
      · exact p.elim
/-- o.f = e -/
def oFld (i : Nat) (f : Str) (e : Rho → Om → RX D) : Rho → Om → OutS := fun ρ ω => (e ρ ω).out ρ fun x ω1 => match obS i ρ ω1 with
  | some (j, s) => if s.length < 1000 then .nx ρ (ω1.set j (putFl f (.d x) s)) else .bad
  | none => .bad
theorem mo_fld (i : Nat) {o e : Expr} {f : Str} {g : Rho → Om → RX D} {pos pos' : Pos} (ho : PE X o (tVar i)) (he : MX X c C W e g) (cl : Cls X.K C) (nf : NoAttr X.K C f) (hs : swapsWith e (some (.Attribute o f pos')) pos.line X.env = pure false := by rfl) : MY X c C W (.Assign [.Attribute o f pos'] e pos) (oFld i f g) :=
  PS.imp (ps_fld ho he hs) fun De σ H ⟨ad, as, G, ρ, ω, ok, p⟩ => stepO ok p fun x ω1 ad1 as1 G1 H1 v g1 u1 ok1 r1 p1 => by
    cases e : obS i ρ ω1 with
    | none => rw [e] at p1; exact p1.elim
    | some q =>
      obtain ⟨j, s⟩ := q
      rw [e] at p1
      dsimp only at p1
      obtain ⟨p, hp, hw, hr, hs, ha, dx, fs, h1, h2⟩ := ok1.obj e
      by_cases hl : s.length < 1000
      · rw [if_pos hl] at p1
        have hm : p.1 ∈ ows as1 := mem_ows.mpr ⟨p, List.mem_of_getElem? hp, .inl rfl⟩
        obtain ⟨bs', f1, f2⟩ := h2.putD f r1
        have nd := List.nodup_cons.mp (ok1.st.nd j p hp)
        have np : ∀ b ∈ bs', b ≠ p.1 := fun b hb z => nd.1 (by rw [← z]; exact f2.subset hb)
        have k' : ∀ b, b ≠ p.1 → (upd H1 p.1 (.ins C dx (putF f v fs))) b = H1 b := fun b hb => upd_ne hb
        refine ⟨_, hs, _, C, dx, fs, rfl, h1, cl, nf, by rw [h2.len]; exact hl, p1 ad1 (as1.set j (p.1, bs')) G1 _ σ (Same.refl G1) (Up.refl ad1) (ok1.call (Gr.owned ok1.s ok1.st.g fun b hb o z => by rw [k' b (fun y => hb (by rw [y]; exact hm))]; exact z) (Up.refl ad1) ?_ fun b hb => ?_)⟩
        · refine ok1.st.set hp (Same.refl G1) ⟨dx, _, upd_same, f1.mono (Up.refl _) (Same.refl G1) fun b hb us z => by rw [k' b (np b hb)]; exact z⟩ (List.nodup_cons.mpr ⟨fun z => nd.1 (f2.subset z), f2.nodup nd.2⟩) (fun b hb => .inl (f2.subset hb)) ok1.st.g (fun b hb => ok1.st.g b (mem_ows.mpr ⟨p, List.mem_of_getElem? hp, .inr (f2.subset hb)⟩)) fun b _ hb o z => ?_
          rw [k' b (fun y => hb (by rw [y]; exact List.mem_cons_self))]
          exact z
        · rcases ows_set hp hb with z | z
          · exact .inl z
          · exact .inl (mem_ows.mpr ⟨p, List.mem_of_getElem? hp, .inr (f2.subset z)⟩)
      · rw [if_neg hl] at p1; exact p1.elim
/-- o.f = [] -/
def oFldN (i : Nat) (f : Str) : Rho → Om → OutS := fun ρ ω => match obS i ρ ω with
  | some (j, s) => if s.length < 1000 then .nx ρ (ω.set j (putFl f (.o []) s)) else .bad
  | none => .bad
theorem put_new {K : PySem.W.Frag} {i j : Nat} {f : Str} {s : Ob} {xs : List D} {us : List V} {ad : Nat → Option Addr} {as : List (Addr × List Addr)} {G H : Hp} {ρ : Rho} {ω : Om} {σ : L2.St} {b : Addr} {De : Ends} (ok : OkA K c C ad as G H ρ ω σ) (e : obS i ρ ω = some (j, s)) (hl : s.length < 1000) (hb : H b = none) (qa : QA K ⟨c.ns.l, ad⟩ G us xs) (cl : Cls K C) (nf : NoAttr K C f)
    (p : PostO K c C W G ad De (.nx ρ (ω.set j (putFl f (.o xs) s)))) : tVar i σ (upd H b (.lst us)) fun x H2 => ∃ a C dx fs, x = .ref a ∧ H2 a = some (.ins C dx fs) ∧ Cls K C ∧ NoAttr K C f ∧ fs.length < 1000 ∧ De.nx σ (upd H2 a (.ins C dx (putF f (.ref b) fs))) := by
  have gr : Gr G H G (upd H b (.lst us)) := Gr.own ok.s hb
  have ok1 := ok.gr gr
  obtain ⟨p', hp, hw, hr, hs, ha, dx, fs, h1, h2⟩ := ok1.obj e
  have nbo : b ∉ ows as := fun z => by
    obtain ⟨o, zo, _⟩ := (ok.st.il b z).nt
    rw [hb] at zo; cases zo
  have hm : p'.1 ∈ ows as := mem_ows.mpr ⟨p', List.mem_of_getElem? hp, .inl rfl⟩
  have nbp : b ≠ p'.1 := fun z => nbo (by rw [z]; exact hm)
  have nd := List.nodup_cons.mp (ok1.st.nd j p' hp)
  have mo : ∀ x ∈ p'.2, x ∈ ows as := fun x hx => mem_ows.mpr ⟨p', List.mem_of_getElem? hp, .inr hx⟩
  obtain ⟨bs', f1, f2, f3⟩ := h2.putO f upd_same qa (fun z => nbo (mo b z)) nd.2
  have np : ∀ x ∈ bs', x ≠ p'.1 := fun x hx z => by
    rcases f3 x hx with y | y
    · exact nd.1 (by rw [← z]; exact y)
    · exact nbp (by rw [← y]; exact z)
  have k' : ∀ x, x ≠ p'.1 → (upd (upd H b (.lst us)) p'.1 (.ins C dx (putF f (.ref b) fs))) x = (upd H b (.lst us)) x := fun x hx => upd_ne hx
  have gb : G b = none := ok.s.free hb
  refine ⟨_, hs, _, C, dx, fs, rfl, h1, cl, nf, by rw [h2.len]; exact hl, p ad (as.set j (p'.1, bs')) G _ σ (Same.refl G) (Up.refl ad) (ok.call (Gr.owned ok.s ok.st.g fun x hx o z => ?_) (Up.refl ad) ?_ fun x hx => ?_)⟩
  · rw [k' x (fun y => hx (by rw [y]; exact hm)), upd_ne (ne_of_none z hb)]
    exact z
  · refine ok1.st.set hp (Same.refl G) ⟨dx, _, upd_same, f1.mono (Up.refl _) (Same.refl G) fun x hx us z => by rw [k' x (np x hx)]; exact z⟩ (List.nodup_cons.mpr ⟨fun z => np _ z rfl, f2⟩) (fun x hx => (f3 x hx).imp id fun y => by rw [y]; exact nbo) ok1.st.g (fun x hx => ?_) fun x _ hx o z => ?_
    · rcases f3 x hx with y | y
      · exact ok1.st.g x (mo x y)
      · rw [y]; exact gb
    · rw [k' x (fun y => hx (by rw [y]; exact List.mem_cons_self))]
      exact z
  · rcases ows_set hp hx with z | z
    · exact .inl z
    · rcases f3 x z with y | y
      · exact .inl (mo x y)
      · refine .inr fun o zo _ => ?_
        rw [y, hb] at zo; cases zo
theorem mo_fldN (i : Nat) {o : Expr} {f : Str} {p1 pos pos' : Pos} (ho : PE X o (tVar i)) (cl : Cls X.K C) (nf : NoAttr X.K C f) (hs : swapsWith (.List [] p1) (some (.Attribute o f pos')) pos.line X.env = pure false := by rfl) : MY X c C W (.Assign [.Attribute o f pos'] (.List [] p1) pos) (oFldN i f) :=
  PS.imp (ps_fld ho (pe_lst pa_nil) hs) fun De σ H ⟨ad, as, G, ρ, ω, ok, p⟩ => by
    unfold oFldN at p
    cases e : obS i ρ ω with
    | none => rw [e] at p; exact p.elim
    | some q =>
      obtain ⟨j, s⟩ := q
      rw [e] at p
      dsimp only at p
      by_cases hl : s.length < 1000
      · rw [if_pos hl] at p
        exact ⟨sz (by simp), fun b hb => put_new ok e hl hb .nil cl nf p⟩
      · rw [if_neg hl] at p; exact p.elim
/-- o.f.append((n, o.g)) -/
def oApp2 (i : Nat) (f : Str) (k : Nat) (g : Str) : Rho → Om → OutS := fun ρ ω => match obS i ρ ω with
  | some (j, s) => (match s.lookup f, s.lookup g, ρ[k]? with
    | some (.o xs), some (.d y), some (.d x) => if xs.length < 1000000 then .nx ρ (ω.set j (putFl f (.o (xs ++ [.tuple [x, y]])) s)) else .bad
    | _, _, _ => .bad)
  | none => .bad
/-- a list of an object's own changes -/
theorem wr_own {K : PySem.W.Frag} {i j : Nat} {f : Str} {s : Ob} {xs xs' : List D} {us' : List V} {ad : Nat → Option Addr} {as : List (Addr × List Addr)} {G H : Hp} {ρ : Rho} {ω : Om} {σ : L2.St} {b dx : Addr} {fs : List (Str × V)} {p : Addr × List Addr} (ok : OkA K c C ad as G H ρ ω σ) (hp : as[j]? = some p) (hw : ω[j]? = some s) (h1 : H p.1 = some (.ins C dx fs)) (h2 : FsOk K ⟨c.ns.l, ad⟩ G H fs s p.2)
    (e : s.lookup f = some (.o xs)) (eb : fs.lookup f = some (.ref b)) (mb : b ∈ p.2) (q : QA K ⟨c.ns.l, ad⟩ G us' xs') : OkA K c C ad as G (upd H b (.lst us')) ρ (ω.set j (putFl f (.o xs') s)) σ := by
  have nd := List.nodup_cons.mp (ok.st.nd j p hp)
  have mo : ∀ x ∈ p.2, x ∈ ows as := fun x hx => mem_ows.mpr ⟨p, List.mem_of_getElem? hp, .inr hx⟩
  have nbp : p.1 ≠ b := fun z => nd.1 (by rw [z]; exact mb)
  have es : as.set j (p.1, p.2) = as := by
    have hj := (List.getElem?_eq_some_iff.mp hp)
    obtain ⟨hl, hv⟩ := hj
    rw [show (p.1, p.2) = p from rfl, ← hv, List.set_getElem_self]
  have st := ok.st.set (H' := upd H b (.lst us')) (s' := putFl f (.o xs') s) hp (Same.refl G) (bs' := p.2) ⟨dx, fs, by rw [upd_ne nbp]; exact h1, h2.wr e eb nd.2 q⟩ (ok.st.nd j p hp) (fun x hx => .inl hx) ok.st.g (fun x hx => ok.st.g x (mo x hx)) fun x _ hx o z => by
    rw [upd_ne (fun y => hx (by rw [y]; exact List.mem_cons_of_mem _ mb))]
    exact z
  rw [es] at st
  refine ok.call (Gr.owned ok.s ok.st.g fun x hx o z => ?_) (Up.refl ad) st fun x hx => .inl hx
  rw [upd_ne (fun y => hx (by rw [y]; exact mo b mb))]
  exact z
theorem mo_app2 (i k : Nat) {e : Expr} {f g : Str} {pos : Pos} (cl : Cls X.K C) (nf : NoAttr X.K C f) (ng : NoAttr X.K C g) (h : PE X e (tBM X.K "list" rAppend (tFld X.K (tVar i) f) (tCons (tTup (tCons (tVar k) (tCons (tFld X.K (tVar i) g) tNil))) tNil))) (hs : swapsWith e none pos.line X.env = pure false := by rfl) :
    MY X c C W (.Expr e pos) (oApp2 i f k g) :=
  PS.imp (ps_expr h hs) fun De σ H ⟨ad, as, G, ρ, ω, ok, p⟩ => by
    unfold oApp2 at p
    cases e' : obS i ρ ω with
    | none => rw [e'] at p; exact p.elim
    | some q =>
      obtain ⟨j, s⟩ := q
      rw [e'] at p
      dsimp only at p
      split at p
      · rename_i xs y x ef eg ex
        by_cases hl : xs.length < 1000000
        · rw [if_pos hl] at p
          obtain ⟨p', hp, hw', hr, hs', ha, dx, fs, h1, h2⟩ := ok.obj e'
          obtain ⟨b, us, eb, mb, hbl, qa⟩ := h2.getO ef
          obtain ⟨vy, evy, qy⟩ := h2.get eg
          obtain ⟨vx, evx, qx⟩ := ok.ok.sl k _ ex
          refine ⟨_, hs', _, C, dx, fs, _, rfl, h1, cl, nf, eb, tyL hbl, vx, evx, _, hs', _, C, dx, fs, vy, rfl, h1, cl, ng, evy, by show 2 ≤ sizeLine; decide, fun t ht => ?_⟩
          have nbt : b ≠ t := ne_of_none hbl ht
          have gr : Gr G H (upd G t (.tup [vx, vy])) (upd H t (.tup [vx, vy])) := Gr.new ok.s ht nt_tup
          have ok1 := ok.gr gr
          obtain ⟨p2, hp2, hw2, _, _, _, dx2, fs2, h12, h22⟩ := ok1.obj e'
          rw [hp] at hp2; cases hp2
          rw [upd_ne (ne_of_none h1 ht), h1] at h12
          cases h12
          have q1 : QA X.K ⟨c.ns.l, ad⟩ (upd G t (.tup [vx, vy])) (us ++ [.ref t]) (xs ++ [.tuple [x, y]]) := (QA.mono gr.g _ _ qa).append (.cons (.tup (.inl (.inl upd_same)) (.cons (Q.mono gr.g _ _ qx) (.cons (Q.mono gr.g _ _ qy) .nil))) .nil)
          exact ⟨b, us, .ref t, rfl, rfl, by rw [upd_ne nbt]; exact hbl, szl (by rw [qa.length]; exact hl), p ad as _ _ σ gr.g (Up.refl ad) (wr_own (i := i) ok1 hp hw' (by rw [upd_ne (ne_of_none h1 ht)]; exact h1) h22 ef eb mb q1)⟩
        · rw [if_neg hl] at p; exact p.elim
      · exact p.elim
/-- o.f.pop() -/
def xpop (i : Nat) (f : Str) : Rho → Om → RX D := fun ρ ω => match obS i ρ ω with
  | some (j, s) => (match s.lookup f with
    | some (.o xs) => (match xs.getLast? with
      | some x => .ok x (ω.set j (putFl f (.o xs.dropLast) s))
      | none => .bad)
    | _ => .bad)
  | none => .bad
theorem QA.dropLast {K : PySem.W.Frag} {ns : Sc} {G : Hp} {us : List V} {xs : List D} (q : QA K ns G us xs) : QA K ns G us.dropLast xs.dropLast := by
  rw [List.dropLast_eq_take, List.dropLast_eq_take, q.length]
  exact q.take _
theorem mx_pop (i : Nat) {e : Expr} {f : Str} (cl : Cls X.K C) (nf : NoAttr X.K C f) (h : PE X e (tBM0 X.K "list" rPop (tFld X.K (tVar i) f))) : MX X c C W e (xpop i f) :=
  PE.imp h fun σ H Qk ⟨ad, as, G, ρ, ω, ok, p⟩ => by
    unfold xpop at p
    cases e' : obS i ρ ω with
    | none => rw [e'] at p; exact p.elim
    | some q =>
      obtain ⟨j, s⟩ := q
      rw [e'] at p
      dsimp only at p
      split at p
      · rename_i xs ef
        split at p
        · rename_i x ex
          obtain ⟨p', hp, hw', hr, hs', ha, dx, fs, h1, h2⟩ := ok.obj e'
          obtain ⟨b, us, eb, mb, hbl, qa⟩ := h2.getO ef
          have ex' : xs[xs.length - 1]? = some x := by rw [← List.getLast?_eq_getElem?]; exact ex
          obtain ⟨v, ev, qv⟩ := qa.get ex'
          refine ⟨_, hs', _, C, dx, fs, _, rfl, h1, cl, nf, eb, tyL hbl, b, us, v, rfl, rfl, hbl, by rw [qa.length]; exact ev, ?_⟩
          exact p ad as G _ v (Same.refl G) (Up.refl ad) (wr_own (i := i) ok hp hw' h1 h2 ef eb mb qa.dropLast) qv
        · exact p.elim
      · exact p.elim
/-- len(o.f) -/
def xlenF (i : Nat) (f : Str) : Rho → Om → RX D := fun ρ ω => match obS i ρ ω with
  | some (_, s) => (match s.lookup f with
    | some (.o xs) => .ok (.int xs.length) ω
    | _ => .bad)
  | none => .bad
theorem mx_lenF (i : Nat) {o : Expr} {f : Str} {a1 p pos : Pos} (ho : PE X o (tVar i)) (cl : Cls X.K C) (nf : NoAttr X.K C f) (hg : Gl X "len") (hm : X.mg "len" = none) (hb : attributeBase o f X.env (eval o X.env) = eval o X.env := by rfl) (s1 : starEach [.Attribute o f a1] X.env = (false, eval (.Attribute o f a1) X.env) :: starEach [] X.env := by rfl) (hpl : (backTo pos (starEach [] X.env)).any (·.1) = false := by rfl) :
    MX X c C W (.Call (.Name "len" p) [.Attribute o f a1] [] pos) (xlenF i f) :=
  PE.imp (pe_callB call_len hg hm bt_len (pa_cons (pe_fld ho hb) pa_nil s1) (by decide) (by decide) s1 hpl) fun σ H Qk ⟨ad, as, G, ρ, ω, ok, p⟩ => by
    unfold xlenF at p
    cases e : obS i ρ ω with
    | none => rw [e] at p; exact p.elim
    | some q =>
      obtain ⟨j, s⟩ := q
      rw [e] at p
      dsimp only at p
      split at p
      · rename_i xs ef
        obtain ⟨p', hp, hw', hr, hs', ha, dx, fs, h1, h2⟩ := ok.obj e
        obtain ⟨b, us, eb, mb, hbl, qa⟩ := h2.getO ef
        exact ⟨_, hs', _, C, dx, fs, _, rfl, h1, cl, nf, eb, _, xs.length, rfl, .inl ⟨_, SqL.of hbl, qa.length.symm⟩, PostX.done (Rel := XQ X.K c.ns.l) (x := .int xs.length) ok p (Gr.refl ok.s) (.int _)⟩
      · exact p.elim
/-- o.f == [] -/
def xnilF (i : Nat) (f : Str) : Rho → Om → RX Bool := fun ρ ω => match obS i ρ ω with
  | some (_, s) => (match s.lookup f with
    | some (.o xs) => RX.of (eqD (.list xs) (.list [])) ω
    | _ => .bad)
  | none => .bad
theorem mtx_nilF (i : Nat) {o : Expr} {f : Str} {a1 p1 pos : Pos} (hu : X.A.units + 64 < cLine) (ho : PE X o (tVar i)) (cl : Cls X.K C) (nf : NoAttr X.K C f) (hb : attributeBase o f X.env (eval o X.env) = eval o X.env := by rfl) : MTX X c C W (.Compare (.Attribute o f a1) [.Eq] [.List [] p1] pos) (xnilF i f) :=
  PT.imp (pt_cmpR (op_eqD hu) (pe_fld ho hb) (pe_lst pa_nil) (nomark _)) fun σ H Qk ⟨ad, as, G, ρ, ω, ok, p⟩ => by
    unfold xnilF at p
    cases e : obS i ρ ω with
    | none => rw [e] at p; exact p.elim
    | some q =>
      obtain ⟨j, s⟩ := q
      rw [e] at p
      dsimp only at p
      split at p
      · rename_i xs ef
        cases ee : eqD (.list xs) (.list []) with
        | none => rw [ee] at p; exact p.elim
        | some d =>
          rw [ee] at p
          obtain ⟨p', hp, hw', hr, hs', ha, dx, fs, h1, h2⟩ := ok.obj e
          obtain ⟨b, us, eb, mb, hbl, qa⟩ := h2.getO ef
          refine ⟨_, hs', _, C, dx, fs, _, rfl, h1, cl, nf, eb, sz (by simp), fun t ht => ?_⟩
          have gr : Gr G H G (upd H t (.lst [])) := Gr.own ok.s ht
          have ok1 := ok.gr gr
          exact cmd_eq (c := cm c ad G H) G (upd H t (.lst [])) (.ref b) (.ref t) (.list xs) (.list []) d _ ee ok1.s (.inr ⟨b, us, xs, rfl, rfl, by rw [upd_ne (ne_of_none hbl ht)]; exact hbl, qa⟩) (.inr ⟨t, [], [], rfl, rfl, upd_same, .nil⟩) fun G' H' g' => ⟨d, rfl, PostX.done (Rel := XT) (x := d) ok p (gr.trans g') rfl⟩
      · exact p.elim
end
end M

/-! defs and methods that are handed objects -/
namespace M
open PySem PySem.Spec PyProof.Rows L2
/-- a method's call, as it is walked: the object, its method, the call -/
abbrev CallsM (X : Cx) (o : Expr) (m : Str) (es : List Expr) (apos pos : Pos) (pl : Sem Bool) : Prop :=
  eval (.Call (.Attribute o m apos) es [] pos) X.env = (eval o X.env >>= fun ov => standAt apos.atName >>= fun _ => holding [ov] (getMethod ov m pl) >>= fun r => callWith pos r.1 r.2 (backTo pos (starEach es X.env)) (backToKw pos (keywordEach [] X.env)))
inductive OutF where
  | rt (x : D) (ω : Om)
  | rz (z : Str) (ω : Om)
  | bad
def OutF.x : OutF → RX D
  | .rt x ω => .ok x ω
  | .rz z ω => .rz z ω
  | .bad => .bad
abbrev FO := List D → Om → OutF
def fnMO (ar n : Nat) (body : Rho → Om → OutS) : FO := fun ds ω => if ds.length = ar then (match body (ds.map .d ++ List.replicate (n - ds.length) .no) ω with
  | .nx _ ω => .rt .none ω
  | .rt x ω => .rt x ω
  | .rz z _ ω => .rz z ω
  | _ => .bad) else .bad
def fnMO0 (ar n : Nat) (body : Rho → Om → OutS) : FO := fun ds ω => match fnMO ar n body ds ω with
  | .rt x ω => .rt x ω
  | _ => .bad
def spO (K : PySem.W.Frag) (l : List Int) (mg : Str → Option Value) (C : Addr) (f : FO) : Sp := fun vs H Qk E => ∃ G ad as ω ds, Sub G H ∧ Store K ⟨l, ad⟩ C G H as ω ∧ QA K ⟨l, ad⟩ G vs ds ∧ match f ds ω with
  | .rt x ω' => ∀ G' H' v ad' as', Gr G (hid (ows as) H) G' H' → Up ad ad' → Store K ⟨l, ad'⟩ C G' H' as' ω' → (∀ b ∈ ows as', b ∈ ows as ∨ Nw H b) → Q K ⟨l, ad'⟩ G' v x → Qk v H'
  | .rz z ω' => ∀ G' H' ad' as', Gr G (hid (ows as) H) G' H' → Up ad ad' → Store K ⟨l, ad'⟩ C G' H' as' ω' → (∀ b ∈ ows as', b ∈ ows as ∨ Nw H b) → ∀ Cz, mg z = some (.ref Cz) → E (.ref Cz) none H'
  | .bad => False
theorem spO_of {K : PySem.W.Frag} {c : Cm} {C : Addr} {W : WM} {mg : Str → Option Value} {ad : Nat → Option Addr} {as : List (Addr × List Addr)} {G H : Hp} {ρ : Rho} {ω : Om} {σ : L2.St} {f : FO} {vs : List V} {ds : List D} {Qk : VK} {E : XK} (ok : OkA K c C ad as G H ρ ω σ) (q : QA K ⟨c.ns.l, ad⟩ G vs ds) (p : PostX K c C W (XQ K c.ns.l) G ad ρ σ Qk (f ds ω).x)
    (hE : ∀ z H', W z σ H' → ∀ Cz, mg z = some (.ref Cz) → E (.ref Cz) none H') : spO K c.ns.l mg C f vs H Qk E := by
  refine ⟨G, ad, as, ω, ds, ok.s, ok.st, q, ?_⟩
  cases e : f ds ω with
  | rt x ω' =>
    rw [e] at p
    exact fun G' H' v ad' as' g u s n qv => p ad' as' G' H' v g.g u (ok.call g u s n) qv
  | rz z ω' =>
    rw [e] at p
    exact fun G' H' ad' as' g u s n => hE z H' (p ad' as' G' H' g.g u (ok.call g u s n))
  | bad => rw [e] at p; exact p
/-! ### the entry of such a def -/
theorem start_okO {K : PySem.W.Frag} {l : List Int} {C : Addr} {ad : Nat → Option Addr} {as : List (Addr × List Addr)} {G H : Hp} {ω : Om} {vs : List V} {ds : List D} {N : List Str} (s : Sub G H) (st : Store K ⟨l, ad⟩ C G H as ω) (q : QA K ⟨l, ad⟩ G vs ds) : OkA K ⟨⟨l, ad⟩, G, hid (ows as) H⟩ C ad as G H (ds.map .d ++ List.replicate (N.length - ds.length) .no) ω (start N vs) := by
  have h := start_ok (N := N) s q
  have no : ∀ (i : Nat) (xs : List D), (ds.map Sl.d ++ List.replicate (N.length - ds.length) Sl.no)[i]? ≠ some (.o xs) := fun i xs e => by
    have := List.mem_of_getElem? e
    simp at this
  refine ⟨Up.refl ad, ⟨s, Gr.unhide s, h.len, fun i x e => ?_, h.dj⟩, st, fun b hb o z _ => ?_, fun i xs a e => absurd e (no i xs)⟩
  · have hs := h.sl i x e
    cases x with
    | no => trivial
    | d x => exact hs
    | o xs => exact absurd e (no i xs)
  · have z' : hid (ows as) H b = some o := z
    rw [hid_in hb] at z'; cases z'
theorem nw_hid {os : List Addr} {H : Hp} {b : Addr} (n : Nw (hid os H) b) : b ∈ os ∨ Nw H b := by
  by_cases h : b ∈ os
  · exact .inl h
  · exact .inr fun o z nt => n o (by rw [hid_ne h]; exact z) nt
section
variable {P : Program} {w : World} {K : PySem.W.Frag} {mg : Str → Option Value} {base : Heap} {x qual : Str} {st : Stmt} {f : Addr} {fd : FuncData} {N ps : List Str} {k : Nat} {l : List Int} {C : Addr} {body : Rho → Om → OutS}
theorem fnOkO (F : Fun K x qual st f fd) (S : FnScope N ps (defScope st))
    (hb : ∀ (cdv : Value) (A : Around) (outer : List Env) (s : Shared) (H : Hp) (E : XK) (c : Cm), c.ns.l = l → Room k (A.deeper (envOfC qual (defScope st) s.heap.objs.size f cdv)) → MYs (cxOf CX0 P w K mg base N qual (defScope st) f cdv A outer s H E).nox c C W0 (defBody st) body) :
    FnOk P w K mg base CX0 (k + 1) f fd ps (spO K l mg C (fnMO0 ps.length N.length body)) := by
  refine F.ok S (fun vs H Qk E h => ?_) (fun cdv A outer s H vs Qk E hr h => ?_)
  · obtain ⟨G, ad, as, ω, ds, s, st, q, h⟩ := h
    unfold fnMO0 fnMO at h
    by_cases hl : ds.length = ps.length
    · rw [q.length, hl]
    · rw [if_neg hl] at h; exact h.elim
  · obtain ⟨G, ad, as, ω, ds, s', st', q, h⟩ := h
    refine ⟨_, (hb cdv A outer s H E ⟨⟨l, ad⟩, G, hid (ows as) H⟩ rfl hr), ad, as, G, _, ω, start_okO s' st' q, ?_⟩
    unfold fnMO0 fnMO at h
    by_cases hl : ds.length = ps.length
    · rw [if_pos hl] at h
      cases e : body (ds.map .d ++ List.replicate (N.length - ds.length) .no) ω with
      | nx ρ ω' =>
        rw [e] at h
        exact fun ad' as' G' H' σ s u ok => h G' H' _ ad' as' ok.ok.e u ok.st (fun b hb => nw_hid (ok.nw b hb)) .non
      | rt x ω' => rw [e] at h; exact fun ad' as' G' H' v en q => h G' H' v ad' as' en.gr en.up en.st (fun b hb => nw_hid (en.nw b hb)) q
      | rz z ρ ω' => rw [e] at h; exact h.elim
      | bk ρ ω' => rw [e] at h; exact h.elim
      | ct ρ ω' => rw [e] at h; exact h.elim
      | bad => rw [e] at h; exact h.elim
    · rw [if_neg hl] at h; exact h.elim
theorem fnOkOX (F : Fun K x qual st f fd) (S : FnScope N ps (defScope st))
    (hb : ∀ (cdv : Value) (A : Around) (outer : List Env) (s : Shared) (H : Hp) (E : XK) (c : Cm), c.ns.l = l → Room k (A.deeper (envOfC qual (defScope st) s.heap.objs.size f cdv)) → MYs (cxOf (L2.CX P w) P w K mg base N qual (defScope st) f cdv A outer s H E) c C (wm mg fun cls d _ H' => E cls d H') (defBody st) body) :
    FnOk P w K mg base (L2.CX P w) (k + 1) f fd ps (spO K l mg C (fnMO ps.length N.length body)) := by
  refine F.okX S (fun vs H Qk E h => ?_) (fun cdv A outer s H vs Qk E hr h => ?_)
  · obtain ⟨G, ad, as, ω, ds, s, st, q, h⟩ := h
    unfold fnMO at h
    by_cases hl : ds.length = ps.length
    · rw [q.length, hl]
    · rw [if_neg hl] at h; exact h.elim
  · obtain ⟨G, ad, as, ω, ds, s', st', q, h⟩ := h
    refine ⟨_, (hb cdv A outer s H E ⟨⟨l, ad⟩, G, hid (ows as) H⟩ rfl hr), ad, as, G, _, ω, start_okO s' st' q, ?_⟩
    unfold fnMO at h
    by_cases hl : ds.length = ps.length
    · rw [if_pos hl] at h
      cases e : body (ds.map .d ++ List.replicate (N.length - ds.length) .no) ω with
      | nx ρ ω' =>
        rw [e] at h
        exact fun ad' as' G' H' σ s u ok => h G' H' _ ad' as' ok.ok.e u ok.st (fun b hb => nw_hid (ok.nw b hb)) .non
      | rt x ω' => rw [e] at h; exact fun ad' as' G' H' v en q => h G' H' v ad' as' en.gr en.up en.st (fun b hb => nw_hid (en.nw b hb)) q
      | rz z ρ ω' => rw [e] at h; exact fun ad' as' G' H' σ s u ok C hC => h G' H' ad' as' ok.ok.e u ok.st (fun b hb => nw_hid (ok.nw b hb)) C hC
      | bk ρ ω' => rw [e] at h; exact h.elim
      | ct ρ ω' => rw [e] at h; exact h.elim
      | bad => rw [e] at h; exact h.elim
    · rw [if_neg hl] at h; exact h.elim
end
/-! ### calls -/
def xcall (f : FO) (g : Rho → Om → RX (List D)) : Rho → Om → RX D := fun ρ ω => (g ρ ω).bind fun ds ω1 => (f ds ω1).x
def xmeth (i : Nat) (m : Str) (f : FO) (g : Rho → Om → RX (List D)) : Rho → Om → RX D := fun ρ ω => match obS i ρ ω with
  | some (j, s) => (match s.lookup m with
    | none => (g ρ ω).bind fun ds ω1 => (f (OBJ j :: ds) ω1).x
    | some _ => .bad)
  | none => .bad
def xmake (f : FO) (g : Rho → Om → RX (List D)) : Rho → Om → RX D := fun ρ ω => (g ρ ω).bind fun ds ω1 => match f (OBJ ω1.length :: ds) (ω1 ++ [[]]) with
  | .rt .none ω2 => .ok (OBJ ω1.length) ω2
  | .rz z ω2 => .rz z ω2
  | _ => .bad
theorem pass00 {X : Cx} {E : XK} : Passes CX0 X E := fun _ _ _ _ _ _ _ h => (show False from h).elim
section
variable {X : Cx} {c : Cm} {C : Addr} {W : WM} {k : Nat} {fa : Addr} {fd : FuncData} {ps : List Str} {x m : Str} {p pos apos : Pos} {o e : Expr} {es : List Expr} {f : FO} {g : Rho → Om → RX (List D)}
theorem mx_call0 (F : FnOk X.prog X.w X.K X.mg X.base CX0 k fa fd ps (spO X.K c.ns.l X.mg C f)) (hr : Room k X.A) (hg : Gl X x) (hm : X.mg x = some (.ref fa)) (hk : PySem.W.keepIn X.K (.ref fa) = true) (hb : Binds X.K fd ps [])
    (ha : MAX X c C W (e :: es) g) (hdb : (x == ("__debug__" : Str)) = false := by decide) (he : starEach (e :: es) X.env = (false, eval e X.env) :: starEach es X.env := by rfl) (hpl : (backTo pos (starEach es X.env)).any (·.1) = false := by rfl) :
    MX X c C W (.Call (.Name x p) (e :: es) [] pos) (xcall f g) :=
  PE.imp (L2.pe_callS (E := fun _ _ _ _ => True) F hr hg hm hk hb (fun σ pins H s e s' I h => (show False from h).elim) ha hdb he hpl) fun σ H Qk ⟨ad, as, G, ρ, ω, ok, p⟩ => stepX ok p fun ds ω1 ad1 as1 G1 H1 vs g1 u1 ok1 r1 p1 =>
    spO_of ok1 r1 p1 fun _ _ _ _ _ => trivial
theorem mx_callX {E : XK} (F : FnOk X.prog X.w X.K X.mg X.base (L2.CX X.prog X.w) k fa fd ps (spO X.K c.ns.l X.mg C f)) (tk : L2.Takes X (fun cls d _ H => E cls d H)) (hr : Room k X.A) (hg : Gl X x) (hm : X.mg x = some (.ref fa)) (hk : PySem.W.keepIn X.K (.ref fa) = true) (hb : Binds X.K fd ps [])
    (ha : MAX X c C (wm X.mg fun cls d _ H => E cls d H) (e :: es) g) (hdb : (x == ("__debug__" : Str)) = false := by decide) (he : starEach (e :: es) X.env = (false, eval e X.env) :: starEach es X.env := by rfl) (hpl : (backTo pos (starEach es X.env)).any (·.1) = false := by rfl) :
    MX X c C (wm X.mg fun cls d _ H => E cls d H) (.Call (.Name x p) (e :: es) [] pos) (xcall f g) :=
  PE.imp (L2.pe_callS F hr hg hm hk hb (fun σ => L2.passAt tk σ) ha hdb he hpl) fun σ H Qk ⟨ad, as, G, ρ, ω, ok, p⟩ => stepX ok p fun ds ω1 ad1 as1 G1 H1 vs g1 u1 ok1 r1 p1 =>
    spO_of ok1 r1 p1 fun _ _ h Cz hz => h Cz hz
theorem meth_at {sp : Sp} {E : XK} {t : TA} (i : Nat) (hsp : ∀ (ad1 : Nat → Option Addr) (as1 : List (Addr × List Addr)) (G1 H1 : Hp) (ρ : Rho) (ω1 : Om) (σ : L2.St) (vs : List V) (ds : List D) (Qk : VK), OkA X.K c C ad1 as1 G1 H1 ρ ω1 σ → QA X.K ⟨c.ns.l, ad1⟩ G1 vs ds → PostX X.K c C W (XQ X.K c.ns.l) G1 ad1 ρ σ Qk (f ds ω1).x → sp vs H1 Qk E)
    (ht : ∀ σ H Qk, tX X.K c C W (XQA X.K c.ns.l) g σ H Qk → t σ H Qk) : ∀ σ H Qk, tX X.K c C W (XQ X.K c.ns.l) (xmeth i m f g) σ H Qk → tMeth C m sp [] E (tVar i) t σ H Qk := fun σ H Qk ⟨ad, as, G, ρ, ω, ok, p⟩ => by
  unfold xmeth at p
  cases e : obS i ρ ω with
  | none => rw [e] at p; exact p.elim
  | some q =>
    obtain ⟨j, s⟩ := q
    rw [e] at p
    dsimp only at p
    cases el : s.lookup m with
    | some _ => rw [el] at p; exact p.elim
    | none =>
      rw [el] at p
      dsimp only at p
      obtain ⟨p', hp, hw', hr, hs', ha, dx, fs, h1, h2⟩ := ok.obj e
      refine ⟨_, hs', _, dx, fs, rfl, h1, h2.noneI el, ht σ H _ (stepX ok p fun ds ω1 ad1 as1 G1 H1 vs g1 u1 ok1 r1 p1 => ?_)⟩
      rw [List.append_nil]
      exact hsp ad1 as1 G1 H1 ρ ω1 σ _ (OBJ j :: ds) Qk ok1 (.cons (.obj j (u1 _ _ ha) rfl) r1) p1
theorem mx_meth0 {pl : Sem Bool} (i : Nat) (ho : PE X o (tVar i)) (cl : Cls X.K C) (hm : Meth X.K C m fa) (F : FnOk X.prog X.w X.K X.mg X.base CX0 k fa fd ps (spO X.K c.ns.l X.mg C f)) (hr : Room k X.A) (hb : Binds X.K fd ps []) (ha : MAX X c C W (e :: es) g)
    (hst : starEach (e :: es) X.env = (false, eval e X.env) :: starEach es X.env := by rfl) (hpl : (backTo pos (starEach es X.env)).any (·.1) = false := by rfl) (ht : CallsM X o m (e :: es) apos pos pl := by rfl) :
    MX X c C W (.Call (.Attribute o m apos) (e :: es) [] pos) (xmeth i m f g) :=
  PE.imp (pe_meth (E := fun _ _ _ => True) ho cl hm F hr hb .nil pass00 ha hst hpl ht) (meth_at i (fun ad1 as1 G1 H1 ρ ω1 σ vs ds Qk ok q p => spO_of ok q p fun _ _ _ _ _ => trivial) fun _ _ _ h => h)
theorem mx_methX {E : XK} {pl : Sem Bool} (i : Nat) (ho : PE X o (tVar i)) (cl : Cls X.K C) (hm : Meth X.K C m fa) (F : FnOk X.prog X.w X.K X.mg X.base (L2.CX X.prog X.w) k fa fd ps (spO X.K c.ns.l X.mg C f)) (tk : L2.Takes X (fun cls d _ H => E cls d H)) (hr : Room k X.A) (hb : Binds X.K fd ps []) (ha : MAX X c C (wm X.mg fun cls d _ H => E cls d H) (e :: es) g)
    (hst : starEach (e :: es) X.env = (false, eval e X.env) :: starEach es X.env := by rfl) (hpl : (backTo pos (starEach es X.env)).any (·.1) = false := by rfl) (ht : CallsM X o m (e :: es) apos pos pl := by rfl) :
    MX X c C (wm X.mg fun cls d _ H => E cls d H) (.Call (.Attribute o m apos) (e :: es) [] pos) (xmeth i m f g) :=
  PE.imp (pe_meth ho cl hm F hr hb .nil (L2.passes_call tk fun _ _ _ _ h => h) ha hst hpl ht) (meth_at i (fun ad1 as1 G1 H1 ρ ω1 σ vs ds Qk ok q p => spO_of ok q p fun _ _ h Cz hz => h Cz hz) fun _ _ _ h => h)
theorem nil_at {K : PySem.W.Frag} : ∀ σ H Qk, tX K c C W (XQA K c.ns.l) xnil σ H Qk → tNil σ H Qk := fun σ H Qk ⟨ad, as, G, ρ, ω, ok, p⟩ => PostX.done (Rel := XQA K c.ns.l) (x := ([] : List D)) ok p (Gr.refl ok.s) .nil
theorem mx_meth00 {pl : Sem Bool} (i : Nat) (ho : PE X o (tVar i)) (cl : Cls X.K C) (hm : Meth X.K C m fa) (F : FnOk X.prog X.w X.K X.mg X.base CX0 k fa fd ps (spO X.K c.ns.l X.mg C f)) (hr : Room k X.A) (hb : Binds X.K fd ps [])
    (ht : CallsM X o m [] apos pos pl := by rfl) :
    MX X c C W (.Call (.Attribute o m apos) [] [] pos) (xmeth i m f xnil) :=
  PE.imp (pe_meth0 (E := fun _ _ _ => True) ho cl hm F hr hb .nil pass00 ht) (meth_at i (fun ad1 as1 G1 H1 ρ ω1 σ vs ds Qk ok q p => spO_of ok q p fun _ _ _ _ _ => trivial) nil_at)
theorem mx_methX0 {E : XK} {pl : Sem Bool} (i : Nat) (ho : PE X o (tVar i)) (cl : Cls X.K C) (hm : Meth X.K C m fa) (F : FnOk X.prog X.w X.K X.mg X.base (L2.CX X.prog X.w) k fa fd ps (spO X.K c.ns.l X.mg C f)) (tk : L2.Takes X (fun cls d _ H => E cls d H)) (hr : Room k X.A) (hb : Binds X.K fd ps [])
    (ht : CallsM X o m [] apos pos pl := by rfl) :
    MX X c C (wm X.mg fun cls d _ H => E cls d H) (.Call (.Attribute o m apos) [] [] pos) (xmeth i m f xnil) :=
  PE.imp (pe_meth0 ho cl hm F hr hb .nil (L2.passes_call tk fun _ _ _ _ h => h) ht) (meth_at i (fun ad1 as1 G1 H1 ρ ω1 σ vs ds Qk ok q p => spO_of ok q p fun _ _ h Cz hz => h Cz hz) nil_at)
/-! ### a new object -/
theorem Store.new {K : PySem.W.Frag} {l : List Int} {ad : Nat → Option Addr} {as : List (Addr × List Addr)} {G H : Hp} {ω : Om} {x dx : Addr} (S : Store K ⟨l, ad⟩ C G H as ω) (s : Sub G H) (hx : H x = none) (hd : H dx = none) (hn : dx ≠ x) : Store K ⟨l, fun j => if j = ω.length then some x else ad j⟩ C G (upd (upd H dx (.own x)) x (.ins C dx [])) (as ++ [(x, [])]) (ω ++ [[]]) ∧ Up ad (fun j => if j = ω.length then some x else ad j) := by
  have u : Up ad (fun j => if j = ω.length then some x else ad j) := fun j a h => by
    have hj : ¬ j = ω.length := fun z => by
      have h2 : ad j = none := S.fr j (by rw [S.len]; omega)
      rw [h] at h2; cases h2
    show (if j = ω.length then some x else ad j) = some a
    rw [if_neg hj]; exact h
  have keep : ∀ b o, H b = some o → (upd (upd H dx (.own x)) x (.ins C dx [])) b = some o := fun b o z => by
    rw [upd_ne (ne_of_none z hx), upd_ne (ne_of_none z hd)]; exact z
  have xo : x ∉ ows as := fun z => by
    obtain ⟨o, zo, _⟩ := (S.il x z).nt
    rw [hx] at zo; cases zo
  have low : ∀ (k : Nat) (q : Addr × List Addr), (as ++ [(x, [])])[k]? = some q → as[k]? = some q ∨ (k = as.length ∧ q = (x, [])) := fun k q e => by
    by_cases hk : k < as.length
    · rw [List.getElem?_append_left hk] at e; exact .inl e
    · rw [List.getElem?_append_right (by omega)] at e
      have : k - as.length = 0 := by
        cases h : k - as.length with
        | zero => rfl
        | succ n => rw [h] at e; simp at e
      rw [this] at e
      cases e
      exact .inr ⟨by omega, rfl⟩
  have mem : ∀ {k : Nat} {q : Addr × List Addr} {b : Addr}, as[k]? = some q → b ∈ q.1 :: q.2 → b ∈ ows as := fun {k q b} e m => mem_ows.mpr ⟨q, List.mem_of_getElem? e, List.mem_cons.mp m⟩
  refine ⟨⟨by simp [S.len], fun k q s' e es => ?_, fun k q e => ?_, fun k k' q q' b hne e e' m m' => ?_, fun b hb => ?_, fun k q e => ?_, fun k hk => ?_⟩, u⟩
  · rcases low k q e with e1 | ⟨rfl, rfl⟩
    · have hk : k < ω.length := by rw [← S.len]; exact (List.getElem?_eq_some_iff.mp e1).1
      rw [List.getElem?_append_left hk] at es
      obtain ⟨dx', fs, h1, h2⟩ := S.at_ k q s' e1 es
      exact ⟨dx', fs, keep _ _ h1, h2.mono u (Same.refl G) fun b _ us z => keep b _ z⟩
    · rw [S.len, List.getElem?_append_right (Nat.le_refl _), Nat.sub_self] at es
      cases es
      exact ⟨dx, [], upd_same, .nil⟩
  · rcases low k q e with e1 | ⟨rfl, rfl⟩
    · exact S.nd k q e1
    · simp
  · rcases low k q e with e1 | ⟨rfl, rfl⟩
    · rcases low k' q' e' with e2 | ⟨z1, rfl⟩
      · exact S.dis k k' q q' b hne e1 e2 m m'
      · rw [List.mem_singleton.mp m'] at m
        exact xo (mem e1 m)
    · rcases low k' q' e' with e2 | ⟨z1, rfl⟩
      · rw [List.mem_singleton.mp m] at m'
        exact xo (mem e2 m')
      · exact hne z1.symm
  · obtain ⟨q, hq, m⟩ := mem_ows.mp hb
    rcases List.mem_append.mp hq with z | z
    · exact S.g b (mem_ows.mpr ⟨q, z, m⟩)
    · rw [List.mem_singleton.mp z] at m
      rcases m with rfl | m
      · exact s.free hx
      · cases m
  · rcases low k q e with e1 | ⟨rfl, rfl⟩
    · exact u _ _ (S.ad k q e1)
    · show (if as.length = ω.length then some x else _) = _
      rw [if_pos S.len]
  · have hk' : as.length + 1 ≤ k := by simpa using hk
    show (if k = ω.length then some x else _) = _
    rw [if_neg (by rw [← S.len]; omega)]
    exact S.fr k (by omega)
theorem make_at {sp : Sp} {E : XK} {t : TA} (hsp : ∀ (ad1 : Nat → Option Addr) (as1 : List (Addr × List Addr)) (G1 H1 : Hp) (ρ : Rho) (ω1 : Om) (σ : L2.St) (vs : List V) (ds : List D) (Qk : VK), OkA X.K c C ad1 as1 G1 H1 ρ ω1 σ → QA X.K ⟨c.ns.l, ad1⟩ G1 vs ds → PostX X.K c C W (XQ X.K c.ns.l) G1 ad1 ρ σ Qk (f ds ω1).x → sp vs H1 Qk E)
    (ht : ∀ σ H Qk, tX X.K c C W (XQA X.K c.ns.l) g σ H Qk → t σ H Qk) : ∀ σ H Qk, tX X.K c C W (XQ X.K c.ns.l) (xmake f g) σ H Qk → tMake C sp [] E t σ H Qk := fun σ H Qk ⟨ad, as, G, ρ, ω, ok, p⟩ => by
  refine ht σ H _ (stepX ok p fun ds ω1 ad1 as1 G1 H1 vs g1 u1 ok1 r1 p1 x dx hx hd hn => ?_)
  rw [List.append_nil]
  obtain ⟨S, u⟩ := ok1.st.new ok1.s hx hd hn
  have key : ∀ b o, H1 b = some o → (upd (upd H1 dx (.own x)) x (.ins C dx [])) b = some o := fun b o z => by
    rw [upd_ne (ne_of_none z hx), upd_ne (ne_of_none z hd)]; exact z
  have ok2 := ok1.call (Gr.owned ok1.s ok1.st.g fun b _ o z => key b o z) u S fun b hb => by
    obtain ⟨q, hq, m⟩ := mem_ows.mp hb
    rcases List.mem_append.mp hq with z | z
    · exact .inl (mem_ows.mpr ⟨q, z, m⟩)
    · rw [List.mem_singleton.mp z] at m
      rcases m with rfl | m
      · exact .inr fun o zo _ => by rw [hx] at zo; cases zo
      · cases m
  have hnx : (if ω1.length = ω1.length then some x else ad1 ω1.length) = some x := if_pos rfl
  refine hsp _ _ G1 _ ρ (ω1 ++ [[]]) σ _ (OBJ ω1.length :: ds) _ ok2 (.cons (.obj ω1.length hnx rfl) (QA.up u _ _ r1)) ?_
  cases e : f (OBJ ω1.length :: ds) (ω1 ++ [[]]) with
  | bad => rw [e] at p1; exact p1
  | rz z ω2 => rw [e] at p1; exact fun ad' as' G' H' g' u' o' => p1 ad' as' G' H' g' (u.trans u') o'
  | rt y ω2 =>
    rw [e] at p1
    cases y with
    | none =>
      exact fun ad' as' G' H' v g' u' o' q => ⟨by cases q; rfl, p1 ad' as' G' H' _ g' (u.trans u') o' (.obj ω1.length (u' _ _ hnx) rfl)⟩
    | _ => exact p1.elim
theorem mx_make0 (M' : Mk X.K C fa) (F : FnOk X.prog X.w X.K X.mg X.base CX0 k fa fd ps (spO X.K c.ns.l X.mg C f)) (hr : Room (k + 1) X.A) (hg : Gl X x) (hm : X.mg x = some (.ref C)) (hb : Binds X.K fd ps [])
    (ha : MAX X c C W (e :: es) g) (hdb : (x == ("__debug__" : Str)) = false := by decide) (he : starEach (e :: es) X.env = (false, eval e X.env) :: starEach es X.env := by rfl) (hpl : (backTo pos (starEach es X.env)).any (·.1) = false := by rfl) :
    MX X c C W (.Call (.Name x p) (e :: es) [] pos) (xmake f g) :=
  PE.imp (pe_make (E := fun _ _ _ => True) M' F hr hg hm hb .nil pass00 ha hdb he hpl) (make_at (fun ad1 as1 G1 H1 ρ ω1 σ vs ds Qk ok q p => spO_of ok q p fun _ _ _ _ _ => trivial) fun _ _ _ h => h)
theorem mx_makeX {E : XK} (M' : Mk X.K C fa) (F : FnOk X.prog X.w X.K X.mg X.base (L2.CX X.prog X.w) k fa fd ps (spO X.K c.ns.l X.mg C f)) (tk : L2.Takes X (fun cls d _ H => E cls d H)) (hr : Room (k + 1) X.A) (hg : Gl X x) (hm : X.mg x = some (.ref C)) (hb : Binds X.K fd ps [])
    (ha : MAX X c C (wm X.mg fun cls d _ H => E cls d H) (e :: es) g) (hdb : (x == ("__debug__" : Str)) = false := by decide) (he : starEach (e :: es) X.env = (false, eval e X.env) :: starEach es X.env := by rfl) (hpl : (backTo pos (starEach es X.env)).any (·.1) = false := by rfl) :
    MX X c C (wm X.mg fun cls d _ H => E cls d H) (.Call (.Name x p) (e :: es) [] pos) (xmake f g) :=
  PE.imp (pe_make M' F hr hg hm hb .nil (L2.passes_call tk fun _ _ _ _ h => h) ha hdb he hpl) (make_at (fun ad1 as1 G1 H1 ρ ω1 σ vs ds Qk ok q p => spO_of ok q p fun _ _ h Cz hz => h Cz hz) fun _ _ _ h => h)
end
section
variable {X : Cx} {c : Cm} {C : Addr} {V : WX}
theorem mo_raise {z : Str} {Cz : Addr} {e : Expr} {pos : Pos} (hc : X.calm = true) (tk : L2.Takes X V) (he : L2.PMk X e (fun _ H Q => Q (.ref Cz) none H)) (hm : X.mg z = some (.ref Cz)) : MY X c C (wm X.mg V) (.Raise (some e) none pos) (oRaise z) :=
  PS.imp (L2.ps_raise hc tk he) fun De σ H ⟨ad, as, G, ρ, ω, ok, p⟩ => p ad as G H σ (Same.refl G) (Up.refl ad) ok Cz hm
def oBad : Rho → Om → OutS := fun _ _ => .bad
theorem mo_never {W : WM} {st : Stmt} : MY X c C W st oBad := PS.imp ps_never fun De σ H ⟨ad, as, G, ρ, ω, ok, p⟩ => p
end
end M

namespace M
open PySem PySem.Spec PyProof.Rows L2
theorem Store.nil {K : PySem.W.Frag} {l : List Int} {C : Addr} {G H : Hp} : Store K ⟨l, fun _ => none⟩ C G H [] [] :=
  ⟨rfl, fun j p s e => by simp at e, fun j p e => by simp at e, fun j k p q b _ e => by simp at e, fun b hb => by simp [ows] at hb, fun j p e => by simp at e, fun _ _ => rfl⟩
section
variable {X : Cx} {c : Cm} {C : Addr} {W : WM}
def oFrz (i : Nat) (f : Rho → Om → OutS) : Rho → Om → OutS := fun ρ ω => f (frz i ρ) ω
theorem mo_frz (i : Nat) {st : Stmt} {f : Rho → Om → OutS} (h : MY X c C W st f) : MY X c C W st (oFrz i f) := PS.imp h fun De σ H ⟨ad, as, G, ρ, ω, ok, p⟩ => by
  obtain ⟨G', s, ok'⟩ := ok.enter.frz i
  exact ⟨ad, as, G', _, ω, ok.leave ok', PostO.gr (o := f (frz i ρ) ω) p s (Up.refl ad)⟩
end
def clsB : Stmt → List Stmt
  | .ClassDef _ _ _ b _ _ _ _ _ _ _ => b
  | _ => []
end M

namespace G
open PySem PySem.Spec PyProof.Rows L2 M
def topS (i : Nat) : Stmt := PySem.Challenge.pw_turntracks_k85_whole_plays_and_knobs.main.body.getD i (.Pass ⟨0, 0, 0, 0⟩)
abbrev s__law_cell : Stmt := topS 31
theorem sc__law_cell : FnScope ["script", "k"] ["script", "k"] (defScope s__law_cell) := ⟨rfl, rfl, rfl, by decide +kernel, rfl, by decide +kernel, by decide +kernel⟩
abbrev s__law_pick : Stmt := topS 32
theorem sc__law_pick : FnScope ["script", "k", "many", "drawn"] ["script", "k", "many"] (defScope s__law_pick) := ⟨rfl, rfl, rfl, by decide +kernel, rfl, by decide +kernel, by decide +kernel⟩
abbrev s_is_whole : Stmt := topS 9
theorem sc_is_whole : FnScope ["thing", "low", "high"] ["thing", "low", "high"] (defScope s_is_whole) := ⟨rfl, rfl, rfl, by decide +kernel, rfl, by decide +kernel, by decide +kernel⟩
abbrev s_look_moves : Stmt := topS 21
theorem sc_look_moves : FnScope ["moves", "play", "one"] ["moves", "play"] (defScope s_look_moves) := ⟨rfl, rfl, rfl, by decide +kernel, rfl, by decide +kernel, by decide +kernel⟩
abbrev s_go_along : Stmt := topS 22
theorem sc_go_along : FnScope ["moves", "play", "begin", "other", "move", "driver", "made"] ["moves", "play", "begin"] (defScope s_go_along) := ⟨rfl, rfl, rfl, by decide +kernel, rfl, by decide +kernel, by decide +kernel⟩
abbrev s_followed : Stmt := topS 23
theorem sc_followed : FnScope ["moves", "play", "begin"] ["moves", "play", "begin"] (defScope s_followed) := ⟨rfl, rfl, rfl, by decide +kernel, rfl, by decide +kernel, by decide +kernel⟩
abbrev s_is_sample : Stmt := topS 11
theorem sc_is_sample : FnScope ["thing"] ["thing"] (defScope s_is_sample) := ⟨rfl, rfl, rfl, by decide +kernel, rfl, by decide +kernel, by decide +kernel⟩
abbrev s_is_any_whole : Stmt := topS 10
theorem sc_is_any_whole : FnScope ["thing"] ["thing"] (defScope s_is_any_whole) := ⟨rfl, rfl, rfl, by decide +kernel, rfl, by decide +kernel, by decide +kernel⟩
abbrev s_made_by : Stmt := topS 16
theorem sc_made_by : FnScope ["sample", "steps", "made", "one"] ["sample", "steps"] (defScope s_made_by) := ⟨rfl, rfl, rfl, by decide +kernel, rfl, by decide +kernel, by decide +kernel⟩
abbrev s_is_row : Stmt := topS 12
theorem sc_is_row : FnScope ["thing", "one"] ["thing"] (defScope s_is_row) := ⟨rfl, rfl, rfl, by decide +kernel, rfl, by decide +kernel, by decide +kernel⟩
abbrev s_look_row : Stmt := topS 13
theorem sc_look_row : FnScope ["row"] ["row"] (defScope s_look_row) := ⟨rfl, rfl, rfl, by decide +kernel, rfl, by decide +kernel, by decide +kernel⟩
abbrev s_far_on : Stmt := topS 14
theorem sc_far_on : FnScope ["one", "other"] ["one", "other"] (defScope s_far_on) := ⟨rfl, rfl, rfl, by decide +kernel, rfl, by decide +kernel, by decide +kernel⟩
abbrev s_step_between : Stmt := topS 15
theorem sc_step_between : FnScope ["one", "other"] ["one", "other"] (defScope s_step_between) := ⟨rfl, rfl, rfl, by decide +kernel, rfl, by decide +kernel, by decide +kernel⟩
abbrev s_plain_count : Stmt := topS 26
theorem sc_plain_count : FnScope ["row", "steps", "one", "other"] ["row"] (defScope s_plain_count) := ⟨rfl, rfl, rfl, by decide +kernel, rfl, by decide +kernel, by decide +kernel⟩
abbrev s_lost_moves : Stmt := topS 24
theorem sc_lost_moves : FnScope ["moves", "play", "begin", "some", "number"] ["moves", "play", "begin"] (defScope s_lost_moves) := ⟨rfl, rfl, rfl, by decide +kernel, rfl, by decide +kernel, by decide +kernel⟩
abbrev s_Knob_go : Stmt := (clsB (topS 29)).getD 1 (.Pass ⟨0, 0, 0, 0⟩)
theorem sc_Knob_go : FnScope ["self", "word", "state"] ["self", "word", "state"] (defScope s_Knob_go) := ⟨rfl, rfl, rfl, by decide +kernel, rfl, by decide +kernel, by decide +kernel⟩
abbrev s_Knob_lay : Stmt := (clsB (topS 29)).getD 3 (.Pass ⟨0, 0, 0, 0⟩)
theorem sc_Knob_lay : FnScope ["self", "number", "was", "low", "high", "every"] ["self", "number"] (defScope s_Knob_lay) := ⟨rfl, rfl, rfl, by decide +kernel, rfl, by decide +kernel, by decide +kernel⟩
abbrev s_Knob_worth : Stmt := (clsB (topS 29)).getD 4 (.Pass ⟨0, 0, 0, 0⟩)
theorem sc_Knob_worth : FnScope ["self"] ["self"] (defScope s_Knob_worth) := ⟨rfl, rfl, rfl, by decide +kernel, rfl, by decide +kernel, by decide +kernel⟩
abbrev s_Knob___init__ : Stmt := (clsB (topS 29)).getD 0 (.Pass ⟨0, 0, 0, 0⟩)
theorem sc_Knob___init__ : FnScope ["self", "low", "high", "every"] ["self", "low", "high", "every"] (defScope s_Knob___init__) := ⟨rfl, rfl, rfl, by decide +kernel, rfl, by decide +kernel, by decide +kernel⟩
abbrev s_Knob_turn : Stmt := (clsB (topS 29)).getD 2 (.Pass ⟨0, 0, 0, 0⟩)
theorem sc_Knob_turn : FnScope ["self", "sample", "by", "rest", "worth", "last", "missed", "low", "high", "every"] ["self", "sample"] (defScope s_Knob_turn) := ⟨rfl, rfl, rfl, by decide +kernel, rfl, by decide +kernel, by decide +kernel⟩
abbrev s_law : Stmt := topS 33
theorem sc_law : FnScope ["script", "moves", "play", "begin", "told", "other", "k", "lost", "row", "along", "knob", "beside", "far", "ahead", "one"] ["script"] (defScope s_law) := ⟨rfl, rfl, rfl, by decide +kernel, rfl, by decide +kernel, by decide +kernel⟩
structure Txt (K : PySem.W.Frag) (mg : Str → Option Value) where
  C_Knob : Addr
  g_Knob : mg "Knob" = some (.ref C_Knob)
  cl : L2.Cls K C_Knob
  nf_own : L2.NoAttr K C_Knob "own"
  nf_now : L2.NoAttr K C_Knob "now"
  nf_past : L2.NoAttr K C_Knob "past"
  nf_later : L2.NoAttr K C_Knob "later"
  a_Knob_go : Addr
  d_Knob_go : FuncData
  F_Knob_go : Fun K "go" "Knob.go" s_Knob_go a_Knob_go d_Knob_go
  h_Knob_go : L2.Meth K C_Knob "go" a_Knob_go
  b_Knob_go : L2.Binds K d_Knob_go ["self", "word", "state"] []
  a_Knob_lay : Addr
  d_Knob_lay : FuncData
  F_Knob_lay : Fun K "lay" "Knob.lay" s_Knob_lay a_Knob_lay d_Knob_lay
  h_Knob_lay : L2.Meth K C_Knob "lay" a_Knob_lay
  b_Knob_lay : L2.Binds K d_Knob_lay ["self", "number"] []
  a_Knob_worth : Addr
  d_Knob_worth : FuncData
  F_Knob_worth : Fun K "worth" "Knob.worth" s_Knob_worth a_Knob_worth d_Knob_worth
  h_Knob_worth : L2.Meth K C_Knob "worth" a_Knob_worth
  b_Knob_worth : L2.Binds K d_Knob_worth ["self"] []
  a_Knob___init__ : Addr
  d_Knob___init__ : FuncData
  F_Knob___init__ : Fun K "__init__" "Knob.__init__" s_Knob___init__ a_Knob___init__ d_Knob___init__
  h_Knob___init__ : L2.Meth K C_Knob "__init__" a_Knob___init__
  mkC : L2.Mk K C_Knob a_Knob___init__
  b_Knob___init__ : L2.Binds K d_Knob___init__ ["self", "low", "high", "every"] []
  a_Knob_turn : Addr
  d_Knob_turn : FuncData
  F_Knob_turn : Fun K "turn" "Knob.turn" s_Knob_turn a_Knob_turn d_Knob_turn
  h_Knob_turn : L2.Meth K C_Knob "turn" a_Knob_turn
  b_Knob_turn : L2.Binds K d_Knob_turn ["self", "sample"] []
  a_law : Addr
  d_law : FuncData
  F_law : Fun K "law" "law" s_law a_law d_law
  g_law : mg "law" = some (.ref a_law)
  b_law : L2.Binds K d_law ["script"] []
  a__law_cell : Addr
  d__law_cell : FuncData
  F__law_cell : Fun K "_law_cell" "_law_cell" s__law_cell a__law_cell d__law_cell
  g__law_cell : mg "_law_cell" = some (.ref a__law_cell)
  b__law_cell : L2.Binds K d__law_cell ["script", "k"] []
  a__law_pick : Addr
  d__law_pick : FuncData
  F__law_pick : Fun K "_law_pick" "_law_pick" s__law_pick a__law_pick d__law_pick
  g__law_pick : mg "_law_pick" = some (.ref a__law_pick)
  b__law_pick : L2.Binds K d__law_pick ["script", "k", "many"] []
  a_is_whole : Addr
  d_is_whole : FuncData
  F_is_whole : Fun K "is_whole" "is_whole" s_is_whole a_is_whole d_is_whole
  g_is_whole : mg "is_whole" = some (.ref a_is_whole)
  b_is_whole : L2.Binds K d_is_whole ["thing", "low", "high"] []
  a_look_moves : Addr
  d_look_moves : FuncData
  F_look_moves : Fun K "look_moves" "look_moves" s_look_moves a_look_moves d_look_moves
  g_look_moves : mg "look_moves" = some (.ref a_look_moves)
  b_look_moves : L2.Binds K d_look_moves ["moves", "play"] []
  a_go_along : Addr
  d_go_along : FuncData
  F_go_along : Fun K "go_along" "go_along" s_go_along a_go_along d_go_along
  g_go_along : mg "go_along" = some (.ref a_go_along)
  b_go_along : L2.Binds K d_go_along ["moves", "play", "begin"] []
  a_followed : Addr
  d_followed : FuncData
  F_followed : Fun K "followed" "followed" s_followed a_followed d_followed
  g_followed : mg "followed" = some (.ref a_followed)
  b_followed : L2.Binds K d_followed ["moves", "play", "begin"] []
  a_is_sample : Addr
  d_is_sample : FuncData
  F_is_sample : Fun K "is_sample" "is_sample" s_is_sample a_is_sample d_is_sample
  g_is_sample : mg "is_sample" = some (.ref a_is_sample)
  b_is_sample : L2.Binds K d_is_sample ["thing"] []
  a_is_any_whole : Addr
  d_is_any_whole : FuncData
  F_is_any_whole : Fun K "is_any_whole" "is_any_whole" s_is_any_whole a_is_any_whole d_is_any_whole
  g_is_any_whole : mg "is_any_whole" = some (.ref a_is_any_whole)
  b_is_any_whole : L2.Binds K d_is_any_whole ["thing"] []
  a_made_by : Addr
  d_made_by : FuncData
  F_made_by : Fun K "made_by" "made_by" s_made_by a_made_by d_made_by
  g_made_by : mg "made_by" = some (.ref a_made_by)
  b_made_by : L2.Binds K d_made_by ["sample", "steps"] []
  a_is_row : Addr
  d_is_row : FuncData
  F_is_row : Fun K "is_row" "is_row" s_is_row a_is_row d_is_row
  g_is_row : mg "is_row" = some (.ref a_is_row)
  b_is_row : L2.Binds K d_is_row ["thing"] []
  a_look_row : Addr
  d_look_row : FuncData
  F_look_row : Fun K "look_row" "look_row" s_look_row a_look_row d_look_row
  g_look_row : mg "look_row" = some (.ref a_look_row)
  b_look_row : L2.Binds K d_look_row ["row"] []
  a_far_on : Addr
  d_far_on : FuncData
  F_far_on : Fun K "far_on" "far_on" s_far_on a_far_on d_far_on
  g_far_on : mg "far_on" = some (.ref a_far_on)
  b_far_on : L2.Binds K d_far_on ["one", "other"] []
  a_step_between : Addr
  d_step_between : FuncData
  F_step_between : Fun K "step_between" "step_between" s_step_between a_step_between d_step_between
  g_step_between : mg "step_between" = some (.ref a_step_between)
  b_step_between : L2.Binds K d_step_between ["one", "other"] []
  a_plain_count : Addr
  d_plain_count : FuncData
  F_plain_count : Fun K "plain_count" "plain_count" s_plain_count a_plain_count d_plain_count
  g_plain_count : mg "plain_count" = some (.ref a_plain_count)
  b_plain_count : L2.Binds K d_plain_count ["row"] []
  a_lost_moves : Addr
  d_lost_moves : FuncData
  F_lost_moves : Fun K "lost_moves" "lost_moves" s_lost_moves a_lost_moves d_lost_moves
  g_lost_moves : mg "lost_moves" = some (.ref a_lost_moves)
  b_lost_moves : L2.Binds K d_lost_moves ["moves", "play", "begin"] []
  z_abs : mg "abs" = none
  z_all : mg "all" = none
  z_bool : mg "bool" = none
  z_int : mg "int" = none
  z_isinstance : mg "isinstance" = none
  z_len : mg "len" = none
  z_list : mg "list" = none
  z_max : mg "max" = none
  z_min : mg "min" = none
  z_range : mg "range" = none
  z_sum : mg "sum" = none
  z_tuple : mg "tuple" = none
  z_zip : mg "zip" = none
  c_ROUND : KTup K mg "ROUND" [0, 1, 3, 2]
  t_LONGEST : Tok
  c_LONGEST : mg "LONGEST" = some (.int 40 t_LONGEST)
  t_MOST_PLAY : Tok
  c_MOST_PLAY : mg "MOST_PLAY" = some (.int 9 t_MOST_PLAY)
  t_MOST_MOVES : Tok
  c_MOST_MOVES : mg "MOST_MOVES" = some (.int 40 t_MOST_MOVES)
  t_FARTHEST : Tok
  c_FARTHEST : mg "FARTHEST" = some (.int 99 t_FARTHEST)
  t_FAR : Tok
  c_FAR : mg "FAR" = some (.int 999 t_FAR)
section
variable {Pr : Program} {w : World} {K : PySem.W.Frag} {mg : Str → Option Value} {base : Heap} {ns : Sc} {l : List Int}
theorem ok__law_cell (T : Txt K mg) : FnOk Pr w K mg base CX0 1 T.a__law_cell T.d__law_cell ["script", "k"] (spM K ns mg (cellF (cell ns.l))) := by
  refine M.FnOk.by (m := fnM0 2 2 (sSeq (sIf (e2 ltD (bnm 1) (lenS ns.l 0)) (sRet (ixS ns.l 0 (bnm 1))) sNil) (sSeq (sIf (nilS ns.l 0) (sRet (cst (.int 0))) sNil) (sRet (e2 addD (e2 mulD (ixS ns.l 0 (e2 modD (bnm 1) (lenS ns.l 0))) (cst (.int 31))) (bnm 1)))))) ?_ (cell_mir ns.l)
  refine fnOk T.F__law_cell sc__law_cell (fun cdv A outer s H E c hc hr => ?_)
  subst hc
  exact (mss_cons (ms_if (mt_cmp op_lt cmd_lt (mb_name 1 (pv 1)) (mb (me_lenS 0 (by rfl) T.z_len bt_len (pv 0))) (nomark _)) (mss_one (ms_ret (me_ixS 0 (pv 0) (mb_name 1 (pv 1)) (fun _ _ => rfl)))) mss_nil)
    (mss_cons (ms_if (mt_nilS hr.units 0 (pv 0)) (mss_one (ms_ret me_int)) mss_nil)
    (mss_one (ms_ret (me_op opr_add opd_add (mb (me_op opr_mul opd_mul (mb (me_ixS 0 (pv 0) (mb (me_op op_mod opd_mod (mb_name 1 (pv 1)) (mb (me_lenS 0 (by rfl) T.z_len bt_len (pv 0))))) (fun _ _ => rfl))) (mb me_int))) (mb_name 1 (pv 1)))))))
theorem ok__law_pick (T : Txt K mg) : FnOk Pr w K mg base CX0 2 T.a__law_pick T.d__law_pick ["script", "k", "many"] (spM K ns mg (pickF (pick ns.l))) := by
  refine M.FnOk.by (m := fnM0 3 4 (pickB (cellF (cell ns.l)))) ?_ (pick_mir ns.l)
  refine fnOk T.F__law_pick sc__law_pick (fun cdv A outer s H E c hc hr => ?_)
  subst hc
  exact (mss_cons (ms_set (i := 3) sc__law_pick.nd rfl (by first | exact Or.inl rfl | exact Or.inr rfl) (mn_d (me_op op_mod opd_mod (mb (me_op opr_mul opd_mul (mb (me_op opr_add opd_add (mb (me_call (ok__law_cell T) (hr.mono (by decide)) (by rfl) T.g__law_cell T.F__law_cell.kp T.b__law_cell (ma_cons (me_name 0 (pv 0)) (ma_cons (me_name 1 (pv 1)) ma_nil)))) (mb (me_op opr_mul opd_mul (mb me_int) (mb (me_op opr_add opd_add (mb_name 1 (pv 1)) (mb me_int))))))) (mb me_int))) (mb me_int))))
    (mss_one (ms_ret (me_op op_mod opd_mod (mb (me_op op_mod opd_mod (mb (me_op opr_add opd_add (mb (me_op opr_mul opd_mul (mb_name 3 (pv 3)) (mb_name 3 (pv 3)))) (mb (me_op op_fdiv opd_fdiv (mb_name 3 (pv 3)) (mb me_int))))) (mb me_int))) (mb_name 2 (pv 2))))))
def tl0_is_whole : Rho → Out := (sRet (andV (e1 (isiE .int) (bnm 0)) (andV (notV (e1 (isiE .bool) (bnm 0))) (bv (chE leD leD (bnm 1) (bnm 0) (bnm 2))))))
def m_is_whole : List D → Out := fnM0 3 3 (tl0_is_whole)
theorem ok_is_whole (T : Txt K mg) : FnOk Pr w K mg base CX0 1 T.a_is_whole T.d_is_whole ["thing", "low", "high"] (spM K ns mg m_is_whole) := by
  refine fnOk T.F_is_whole sc_is_whole (fun cdv A outer s H E c hc hr => ?_)
  subst hc
  exact (mss_one (ms_ret (me_and (mb (me_isi .int (by rfl) T.z_isinstance bt_isinstance (mb_name 0 (pv 0)) (pe_bltn (by rfl) T.z_int bt_int rfl))) (me_and (mb (me_not (mb (me_isi .bool (by rfl) T.z_isinstance bt_isinstance (mb_name 0 (pv 0)) (pe_bltn (by rfl) T.z_bool bt_bool rfl))))) (me_one (me_chain op_le op_le cmd_le cmd_le (mb_name 1 (pv 1)) (mb_name 0 (pv 0)) (mb_name 2 (pv 2))))))))
def ce1_look_moves : Rho → R D := (call m_is_whole (cons' (nm 2) (cons' (e2 subD (cst (.int 0)) (cst (.int 99))) (cons' (cst (.int 99)) (cst [])))))
def tl2_look_moves : Rho → Out := (sIf (notT (e1 asB (call m_is_whole (cons' (nm 1) (cons' (cst (.int 0)) (cons' (cst (.int 9)) (cst []))))))) sBad sNil)
def tl1_look_moves : Rho → Out := (sSeq (sIf (notT (e1 asB (e1 allD (cons' (lcD (lcE [2] (itE (nm 0)) (bName 2) yes ce1_look_moves)) (cst []))))) sBad sNil) tl2_look_moves)
def tl0_look_moves : Rho → Out := (sSeq (sIf (orT (notT (e1 asB (e1 (isiTE .list .tuple) (bnm 0)))) (e2 gtD (e1 lenD (cons' (bnm 0) (cst []))) (cst (.int 40)))) sBad sNil) tl1_look_moves)
def m_look_moves : List D → Out := fnM0 2 3 (tl0_look_moves)
theorem ok_look_moves (T : Txt K mg) : FnOk Pr w K mg base CX0 2 T.a_look_moves T.d_look_moves ["moves", "play"] (spM K ns mg m_look_moves) := by
  refine fnOk T.F_look_moves sc_look_moves (fun cdv A outer s H E c hc hr => ?_)
  subst hc
  exact (mss_cons (ms_if (mt_w (mw_or (mt_not (mt_val (mb (me_isiT .list .tuple (by rfl) T.z_isinstance bt_isinstance (mb_name 0 (pv 0)) (pe_bltn (by rfl) T.z_list bt_list rfl) (pe_bltn (by rfl) T.z_tuple bt_tuple rfl))))) (mw_or1 (mt_cmp op_gt cmd_gt (mb (me_callB call_len cad_len (by rfl) T.z_len bt_len (mba_cons (mb_name 0 (pv 0)) mba_nil))) (mb (me_globI (by rfl) T.c_MOST_MOVES)) (nomark _))))) (mss_one ms_never) mss_nil)
    (mss_cons (ms_if (mt_not (mt_val (mb (me_callB (cr_all rfl) cad_all (by rfl) T.z_all bt_all (mba_cons (mb (me_lc (own := [("one", 2)]) rfl sc_look_moves.nd (mi_of (me_name 0 (pv 0))) (blkOk_by (N := ["moves", "play", "one"]) (sc := defScope s_look_moves) (by decide +kernel)) (fun _ _ _ _ _ => (pg_name (i := 2) sc_look_moves.nd rfl (by first | exact Or.inl rfl | exact Or.inr rfl))) (tg_name 2) (fun _ _ _ _ _ => pts_nil) (fun _ _ _ z => yes_ok z) (fun _ _ _ _ _ => (me_call (ok_is_whole T) (hr.mono (by decide)) (by rfl) T.g_is_whole T.F_is_whole.kp T.b_is_whole (ma_cons (me_name 2 (pv 2)) (ma_cons (me_op op_sub opd_sub (mb me_int) (mb (me_globI (by rfl) T.c_FARTHEST))) (ma_cons (me_globI (by rfl) T.c_FARTHEST) ma_nil))))))) mba_nil))))) (mss_one ms_never) mss_nil)
    (mss_one (ms_if (mt_not (mt_val (mb (me_call (ok_is_whole T) (hr.mono (by decide)) (by rfl) T.g_is_whole T.F_is_whole.kp T.b_is_whole (ma_cons (me_name 1 (pv 1)) (ma_cons me_int (ma_cons (me_globI (by rfl) T.c_MOST_PLAY) ma_nil))))))) (mss_one ms_never) mss_nil))))
def lb1_go_along : Rho → Out := (sSeq (sSet 5 (nD (e2 addD (bnm 5) (bnm 4))))
    (sSeq (sSet 3 (nD (e1 maxD (cons' (e2 subD (bnm 5) (bnm 1)) (cons' (e1 minD (cons' (bnm 5) (cons' (bnm 3) (cst [])))) (cst []))))))
    (sApp 6 (nm 3))))
def tl3_go_along : Rho → Out := (own 6)
def tl2_go_along : Rho → Out := (sSeq (sFor (itE (nm 0)) (bName 4) lb1_go_along) tl3_go_along)
def tl1_go_along : Rho → Out := (sSeq (sSet 3 (nD (cst (.int 0)))) tl2_go_along)
def tl0_go_along : Rho → Out := (sSeq (sPar 5 6 (nD (nm 2)) (nLst (cst []))) tl1_go_along)
def m_go_along : List D → Out := fnM0 3 7 (tl0_go_along)
theorem ok_go_along (T : Txt K mg) : FnOk Pr w K mg base CX0 1 T.a_go_along T.d_go_along ["moves", "play", "begin"] (spM K ns mg m_go_along) := by
  refine fnOk T.F_go_along sc_go_along (fun cdv A outer s H E c hc hr => ?_)
  subst hc
  exact (mss_cons (ms_par (i := 5) (j := 6) rfl sc_go_along.nd rfl rfl (by decide) rfl rfl (mn_d (me_name 2 (pv 2))) (mn_lst ma_nil) (by rfl))
    (mss_cons (ms_set (i := 3) sc_go_along.nd rfl (by first | exact Or.inl rfl | exact Or.inr rfl) (mn_d me_int))
    (mss_cons (ms_for (vs := [4]) PassesOwn.never rfl (mi_of (me_name 0 (pv 0))) (pg_name (i := 4) sc_go_along.nd rfl (by first | exact Or.inl rfl | exact Or.inr rfl)) (tg_name 4) (mss_cons (ms_set (i := 5) sc_go_along.nd rfl (by first | exact Or.inl rfl | exact Or.inr rfl) (mn_d (me_op opr_add opd_add (mb_name 5 (pv 5)) (mb_name 4 (pv 4)))))
    (mss_cons (ms_set (i := 3) sc_go_along.nd rfl (by first | exact Or.inl rfl | exact Or.inr rfl) (mn_d (me_callB (car_max rfl) cad_max (by rfl) T.z_max bt_max (mba_cons (mb (me_op op_sub opd_sub (mb_name 5 (pv 5)) (mb_name 1 (pv 1)))) (mba_cons (mb (me_callB (car_min rfl) cad_min (by rfl) T.z_min bt_min (mba_cons (mb_name 5 (pv 5)) (mba_cons (mb_name 3 (pv 3)) mba_nil)))) mba_nil)))))
    (mss_one (ms_app (pe_bm PySem.F.plainAttrs_list PySem.F.slot_list_append PySem.F.type_list_append mt_append (pv 6) (pa_cons (me_name 3 (pv 3)) pa_nil)))))))
    (mss_one (ms_retO 6 (pv 6))))))
def tl2_followed : Rho → Out := (sRetN (ncall m_go_along (cons' (nm 0) (cons' (nm 1) (cons' (nm 2) (cst []))))))
def tl1_followed : Rho → Out := (sSeq (sIf (notT (e1 asB (call m_is_whole (cons' (nm 2) (cons' (cst (.int 0)) (cons' (nm 1) (cst []))))))) sBad sNil) tl2_followed)
def tl0_followed : Rho → Out := (sSeq (sDrop (call m_look_moves (cons' (nm 0) (cons' (nm 1) (cst []))))) tl1_followed)
def m_followed : List D → Out := fnM0 3 3 (tl0_followed)
theorem ok_followed (T : Txt K mg) : FnOk Pr w K mg base CX0 3 T.a_followed T.d_followed ["moves", "play", "begin"] (spM K ns mg m_followed) := by
  refine fnOk T.F_followed sc_followed (fun cdv A outer s H E c hc hr => ?_)
  subst hc
  exact (mss_cons (ms_expr (mb (me_call (ok_look_moves T) (hr.mono (by decide)) (by rfl) T.g_look_moves T.F_look_moves.kp T.b_look_moves (ma_cons (me_name 0 (pv 0)) (ma_cons (me_name 1 (pv 1)) ma_nil)))))
    (mss_cons (ms_if (mt_not (mt_val (mb (me_call (ok_is_whole T) (hr.mono (by decide)) (by rfl) T.g_is_whole T.F_is_whole.kp T.b_is_whole (ma_cons (me_name 2 (pv 2)) (ma_cons me_int (ma_cons (me_name 1 (pv 1)) ma_nil))))))) (mss_one ms_never) mss_nil)
    (mss_one (ms_retN (mn_call (ok_go_along T) (hr.mono (by decide)) (by rfl) T.g_go_along T.F_go_along.kp T.b_go_along (ma_cons (me_name 0 (pv 0)) (ma_cons (me_name 1 (pv 1)) (ma_cons (me_name 2 (pv 2)) ma_nil))))))))
def tl0_is_sample : Rho → Out := (sRetN (ncall m_is_whole (cons' (nm 0) (cons' (cst (.int 0)) (cons' (cst (.int 3)) (cst []))))))
def m_is_sample : List D → Out := fnM0 1 1 (tl0_is_sample)
theorem ok_is_sample (T : Txt K mg) : FnOk Pr w K mg base CX0 2 T.a_is_sample T.d_is_sample ["thing"] (spM K ns mg m_is_sample) := by
  refine fnOk T.F_is_sample sc_is_sample (fun cdv A outer s H E c hc hr => ?_)
  subst hc
  exact (mss_one (ms_retN (mn_call (ok_is_whole T) (hr.mono (by decide)) (by rfl) T.g_is_whole T.F_is_whole.kp T.b_is_whole (ma_cons (me_name 0 (pv 0)) (ma_cons me_int (ma_cons me_int ma_nil))))))
def tl0_is_any_whole : Rho → Out := (sRet (andV (e1 (isiE .int) (bnm 0)) (notV (e1 (isiE .bool) (bnm 0)))))
def m_is_any_whole : List D → Out := fnM0 1 1 (tl0_is_any_whole)
theorem ok_is_any_whole (T : Txt K mg) : FnOk Pr w K mg base CX0 1 T.a_is_any_whole T.d_is_any_whole ["thing"] (spM K ns mg m_is_any_whole) := by
  refine fnOk T.F_is_any_whole sc_is_any_whole (fun cdv A outer s H E c hc hr => ?_)
  subst hc
  exact (mss_one (ms_ret (me_and (mb (me_isi .int (by rfl) T.z_isinstance bt_isinstance (mb_name 0 (pv 0)) (pe_bltn (by rfl) T.z_int bt_int rfl))) (me_one (me_not (mb (me_isi .bool (by rfl) T.z_isinstance bt_isinstance (mb_name 0 (pv 0)) (pe_bltn (by rfl) T.z_bool bt_bool rfl))))))))
def ce1_made_by : Rho → R D := (call m_is_any_whole (cons' (nm 3) (cst [])))
def lb2_made_by : Rho → Out := (sApp 2 (e2 ixD (cst (.tuple (([0, 1, 3, 2] : List Int).map .int))) (e2 modD (e2 addD (e1 (idxK [0, 1, 3, 2]) (e2 ixD (bnm 2) (e1 negD (cst (.int 1))))) (bnm 3)) (cst (.int 4)))))
def tl4_made_by : Rho → Out := (sRet (e1 tupleD (cons' (bnm 2) (cst []))))
def tl3_made_by : Rho → Out := (sSeq (sFor (itE (nm 1)) (bName 3) lb2_made_by) tl4_made_by)
def tl2_made_by : Rho → Out := (sSeq (sSet 2 (nLst (cons' (nm 0) (cst [])))) tl3_made_by)
def tl1_made_by : Rho → Out := (sSeq (sIf (notT (e1 asB (e1 allD (cons' (lcD (lcE [3] (itE (nm 1)) (bName 3) yes ce1_made_by)) (cst []))))) sBad sNil) tl2_made_by)
def tl0_made_by : Rho → Out := (sSeq (sIf (orT (notT (e1 asB (call m_is_sample (cons' (nm 0) (cst []))))) (orT (notT (e1 asB (e1 (isiTE .list .tuple) (bnm 1)))) (e2 geD (e1 lenD (cons' (bnm 1) (cst []))) (cst (.int 40))))) sBad sNil) tl1_made_by)
def m_made_by : List D → Out := fnM0 2 4 (tl0_made_by)
theorem ok_made_by (T : Txt K mg) : FnOk Pr w K mg base CX0 3 T.a_made_by T.d_made_by ["sample", "steps"] (spM K ns mg m_made_by) := by
  refine fnOk T.F_made_by sc_made_by (fun cdv A outer s H E c hc hr => ?_)
  subst hc
  exact (mss_cons (ms_if (mt_w (mw_or (mt_not (mt_val (mb (me_call (ok_is_sample T) (hr.mono (by decide)) (by rfl) T.g_is_sample T.F_is_sample.kp T.b_is_sample (ma_cons (me_name 0 (pv 0)) ma_nil))))) (mw_or (mt_not (mt_val (mb (me_isiT .list .tuple (by rfl) T.z_isinstance bt_isinstance (mb_name 1 (pv 1)) (pe_bltn (by rfl) T.z_list bt_list rfl) (pe_bltn (by rfl) T.z_tuple bt_tuple rfl))))) (mw_or1 (mt_cmp op_ge cmd_ge (mb (me_callB call_len cad_len (by rfl) T.z_len bt_len (mba_cons (mb_name 1 (pv 1)) mba_nil))) (mb (me_globI (by rfl) T.c_LONGEST)) (nomark _)))))) (mss_one ms_never) mss_nil)
    (mss_cons (ms_if (mt_not (mt_val (mb (me_callB (cr_all rfl) cad_all (by rfl) T.z_all bt_all (mba_cons (mb (me_lc (own := [("one", 3)]) rfl sc_made_by.nd (mi_of (me_name 1 (pv 1))) (blkOk_by (N := ["sample", "steps", "made", "one"]) (sc := defScope s_made_by) (by decide +kernel)) (fun _ _ _ _ _ => (pg_name (i := 3) sc_made_by.nd rfl (by first | exact Or.inl rfl | exact Or.inr rfl))) (tg_name 3) (fun _ _ _ _ _ => pts_nil) (fun _ _ _ z => yes_ok z) (fun _ _ _ _ _ => (me_call (ok_is_any_whole T) (hr.mono (by decide)) (by rfl) T.g_is_any_whole T.F_is_any_whole.kp T.b_is_any_whole (ma_cons (me_name 3 (pv 3)) ma_nil))))) mba_nil))))) (mss_one ms_never) mss_nil)
    (mss_cons (ms_set (i := 2) sc_made_by.nd rfl (by first | exact Or.inl rfl | exact Or.inr rfl) (mn_lst (ma_cons (me_name 0 (pv 0)) ma_nil)))
    (mss_cons (ms_for (vs := [3]) PassesOwn.never rfl (mi_of (me_name 1 (pv 1))) (pg_name (i := 3) sc_made_by.nd rfl (by first | exact Or.inl rfl | exact Or.inr rfl)) (tg_name 3) (mss_one (ms_app (pe_bm PySem.F.plainAttrs_list PySem.F.slot_list_append PySem.F.type_list_append mt_append (pv 2) (pa_cons (me_ix ix_seq opd_ix (mb (me_globT T.c_ROUND (by rfl))) (mb (me_op op_mod opd_mod (mb (me_op opr_add opd_add (mb (me_idxK T.c_ROUND (by rfl) fun h => pe_bm PySem.F.plainAttrs_tuple PySem.F.slot_tuple_index PySem.F.type_tuple_index mt_indexT h (pa_cons (mb (me_ix ix_seq opd_ix (mb_name 2 (pv 2)) (mb (me_neg (mb me_int))) (fun _ _ => rfl))) pa_nil))) (mb_name 3 (pv 3)))) (mb me_int))) (fun _ _ => rfl)) pa_nil)))))
    (mss_one (ms_ret (me_callTy call_tuple_of cad_tuple (by rfl) T.z_tuple bt_tuple (mba_cons (mb_name 2 (pv 2)) mba_nil))))))))
def ce1_is_row : Rho → R D := (call m_is_sample (cons' (nm 1) (cst [])))
def tl0_is_row : Rho → Out := (sRet (andV (e1 (isiE .tuple) (bnm 0)) (andV (bv (chE leD leD (cst (.int 1)) (e1 lenD (cons' (bnm 0) (cst []))) (cst (.int 40)))) (e1 allD (cons' (lcD (lcE [1] (itE (nm 0)) (bName 1) yes ce1_is_row)) (cst []))))))
def m_is_row : List D → Out := fnM0 1 2 (tl0_is_row)
theorem ok_is_row (T : Txt K mg) : FnOk Pr w K mg base CX0 3 T.a_is_row T.d_is_row ["thing"] (spM K ns mg m_is_row) := by
  refine fnOk T.F_is_row sc_is_row (fun cdv A outer s H E c hc hr => ?_)
  subst hc
  exact (mss_one (ms_ret (me_and (mb (me_isi .tuple (by rfl) T.z_isinstance bt_isinstance (mb_name 0 (pv 0)) (pe_bltn (by rfl) T.z_tuple bt_tuple rfl))) (me_and (mb (me_chain op_le op_le cmd_le cmd_le (mb me_int) (mb (me_callB call_len cad_len (by rfl) T.z_len bt_len (mba_cons (mb_name 0 (pv 0)) mba_nil))) (mb (me_globI (by rfl) T.c_LONGEST)))) (me_one (me_callB (cr_all rfl) cad_all (by rfl) T.z_all bt_all (mba_cons (mb (me_lc (own := [("one", 1)]) rfl sc_is_row.nd (mi_of (me_name 0 (pv 0))) (blkOk_by (N := ["thing", "one"]) (sc := defScope s_is_row) (by decide +kernel)) (fun _ _ _ _ _ => (pg_name (i := 1) sc_is_row.nd rfl (by first | exact Or.inl rfl | exact Or.inr rfl))) (tg_name 1) (fun _ _ _ _ _ => pts_nil) (fun _ _ _ z => yes_ok z) (fun _ _ _ _ _ => (me_call (ok_is_sample T) (hr.mono (by decide)) (by rfl) T.g_is_sample T.F_is_sample.kp T.b_is_sample (ma_cons (me_name 1 (pv 1)) ma_nil))))) mba_nil)))))))
def tl0_look_row : Rho → Out := (sIf (notT (e1 asB (call m_is_row (cons' (nm 0) (cst []))))) sBad sNil)
def m_look_row : List D → Out := fnM0 1 1 (tl0_look_row)
theorem ok_look_row (T : Txt K mg) : FnOk Pr w K mg base CX0 4 T.a_look_row T.d_look_row ["row"] (spM K ns mg m_look_row) := by
  refine fnOk T.F_look_row sc_look_row (fun cdv A outer s H E c hc hr => ?_)
  subst hc
  exact (mss_one (ms_if (mt_not (mt_val (mb (me_call (ok_is_row T) (hr.mono (by decide)) (by rfl) T.g_is_row T.F_is_row.kp T.b_is_row (ma_cons (me_name 0 (pv 0)) ma_nil))))) (mss_one ms_never) mss_nil))
def tl0_far_on : Rho → Out := (sRet (e2 modD (e2 subD (e1 (idxK [0, 1, 3, 2]) (bnm 1)) (e1 (idxK [0, 1, 3, 2]) (bnm 0))) (cst (.int 4))))
def m_far_on : List D → Out := fnM0 2 2 (tl0_far_on)
theorem ok_far_on (T : Txt K mg) : FnOk Pr w K mg base CX0 1 T.a_far_on T.d_far_on ["one", "other"] (spM K ns mg m_far_on) := by
  refine fnOk T.F_far_on sc_far_on (fun cdv A outer s H E c hc hr => ?_)
  subst hc
  exact (mss_one (ms_ret (me_op op_mod opd_mod (mb (me_op op_sub opd_sub (mb (me_idxK T.c_ROUND (by rfl) fun h => pe_bm PySem.F.plainAttrs_tuple PySem.F.slot_tuple_index PySem.F.type_tuple_index mt_indexT h (pa_cons (mb_name 1 (pv 1)) pa_nil))) (mb (me_idxK T.c_ROUND (by rfl) fun h => pe_bm PySem.F.plainAttrs_tuple PySem.F.slot_tuple_index PySem.F.type_tuple_index mt_indexT h (pa_cons (mb_name 0 (pv 0)) pa_nil))))) (mb me_int))))
def tl0_step_between : Rho → Out := (sRet (e2 ixD (tupE (cons' (cst (.int 0)) (cons' (cst (.int 1)) (cons' (cst .none) (cons' (e1 negD (cst (.int 1))) (cst [])))))) (call m_far_on (cons' (nm 0) (cons' (nm 1) (cst []))))))
def m_step_between : List D → Out := fnM0 2 2 (tl0_step_between)
theorem ok_step_between (T : Txt K mg) : FnOk Pr w K mg base CX0 2 T.a_step_between T.d_step_between ["one", "other"] (spM K ns mg m_step_between) := by
  refine fnOk T.F_step_between sc_step_between (fun cdv A outer s H E c hc hr => ?_)
  subst hc
  exact (mss_one (ms_ret (me_ix ix_seq opd_ix (mb (me_tup (ma_cons me_int (ma_cons me_int (ma_cons me_non (ma_cons (me_neg (mb me_int)) ma_nil)))))) (mb (me_call (ok_far_on T) (hr.mono (by decide)) (by rfl) T.g_far_on T.F_far_on.kp T.b_far_on (ma_cons (me_name 0 (pv 0)) (ma_cons (me_name 1 (pv 1)) ma_nil)))) (fun _ _ => rfl))))
def ce1_plain_count : Rho → R D := (call m_step_between (cons' (nm 2) (cons' (nm 3) (cst []))))
def tl2_plain_count : Rho → Out := (sRet (ifE (e2 inD (cst .none) (bnm 1)) (cst .none) (e1 sumD (cons' (bnm 1) (cst [])))))
def tl1_plain_count : Rho → Out := (sSeq (sSet 1 (nO (lcE [2, 3] (zpE (nm 0) (slE (bnm 0) (e1 asI (cst (.int 1))) (cst none))) (bTup [2, 3]) yes ce1_plain_count))) tl2_plain_count)
def tl0_plain_count : Rho → Out := (sSeq (sDrop (call m_look_row (cons' (nm 0) (cst [])))) tl1_plain_count)
def m_plain_count : List D → Out := fnM0 1 4 (tl0_plain_count)
theorem ok_plain_count (T : Txt K mg) : FnOk Pr w K mg base CX0 5 T.a_plain_count T.d_plain_count ["row"] (spM K ns mg m_plain_count) := by
  refine fnOk T.F_plain_count sc_plain_count (fun cdv A outer s H E c hc hr => ?_)
  subst hc
  exact (mss_cons (ms_expr (mb (me_call (ok_look_row T) (hr.mono (by decide)) (by rfl) T.g_look_row T.F_look_row.kp T.b_look_row (ma_cons (me_name 0 (pv 0)) ma_nil))))
    (mss_cons (ms_setLc (i := 1) (y := "steps") (own := [("one", 2), ("other", 3)]) rfl sc_plain_count.nd rfl rfl (sw_true rfl rfl rfl (by decide +kernel)) (mi_zip (by rfl) T.z_zip (me_name 0 (pv 0)) (me_slice (mb_name 0 (pv 0)) (mo_some (mb me_int)) mo_none)) (blkOk_by (N := ["row", "steps", "one", "other"]) (sc := defScope s_plain_count) (by decide +kernel)) (fun _ _ _ _ _ => (pg_tup (n := 2) rfl (pgs_cons (pg_name (i := 2) sc_plain_count.nd rfl (by first | exact Or.inl rfl | exact Or.inr rfl)) (pgs_cons (pg_name (i := 3) sc_plain_count.nd rfl (by first | exact Or.inl rfl | exact Or.inr rfl)) pgs_nil)))) (tg_tup (tgs_cons 2 (tgs_cons 3 tgs_nil))) (fun _ _ _ _ _ => pts_nil) (fun _ _ _ z => yes_ok z) (fun _ _ _ _ _ => (me_call (ok_step_between T) (hr.mono (by decide)) (by rfl) T.g_step_between T.F_step_between.kp T.b_step_between (ma_cons (me_name 2 (pv 2)) (ma_cons (me_name 3 (pv 3)) ma_nil)))))
    (mss_one (ms_ret (me_if (mt_cmp (opr_in (units65 hr)) cmd_in (mb me_non) (mb_name 1 (pv 1)) (by rfl)) me_non (me_callB (cr_sum rfl) cad_sum (by rfl) T.z_sum bt_sum (mba_cons (mb_name 1 (pv 1)) mba_nil)))))))
def ct1_lost_moves : Rho → R Bool := (andT (e2 neD (e2 ixD (bnm 0) (bnm 4)) (cst (.int 0))) (e2 eqD (e2 ixD (bnm 3) (bnm 4)) (e2 ixD (bnm 3) (e2 addD (bnm 4) (cst (.int 1))))))
def tl1_lost_moves : Rho → Out := (sRetN (nO (lcE [4] (rg1 (e1 lenD (cons' (bnm 0) (cst [])))) (bName 4) ct1_lost_moves (nm 4))))
def tl0_lost_moves : Rho → Out := (sSeq (sSet 3 (nD (e2 addD (lstE (cons' (cst (.int 0)) (cst []))) (call m_followed (cons' (nm 0) (cons' (nm 1) (cons' (nm 2) (cst [])))))))) tl1_lost_moves)
def m_lost_moves : List D → Out := fnM0 3 5 (tl0_lost_moves)
theorem ok_lost_moves (T : Txt K mg) : FnOk Pr w K mg base CX0 4 T.a_lost_moves T.d_lost_moves ["moves", "play", "begin"] (spM K ns mg m_lost_moves) := by
  refine fnOk T.F_lost_moves sc_lost_moves (fun cdv A outer s H E c hc hr => ?_)
  subst hc
  exact (mss_cons (ms_set (i := 3) sc_lost_moves.nd rfl (by first | exact Or.inl rfl | exact Or.inr rfl) (mn_d (me_op opr_add opd_add (mb (me_lst (ma_cons me_int ma_nil))) (mb (me_call (ok_followed T) (hr.mono (by decide)) (by rfl) T.g_followed T.F_followed.kp T.b_followed (ma_cons (me_name 0 (pv 0)) (ma_cons (me_name 1 (pv 1)) (ma_cons (me_name 2 (pv 2)) ma_nil))))))))
    (mss_one (ms_retN (mn_lc (own := [("number", 4)]) rfl sc_lost_moves.nd (mi_range1 (by rfl) T.z_range (mb (me_callB call_len cad_len (by rfl) T.z_len bt_len (mba_cons (mb_name 0 (pv 0)) mba_nil)))) (blkOk_by (N := ["moves", "play", "begin", "some", "number"]) (sc := defScope s_lost_moves) (by decide +kernel)) (fun _ _ _ _ _ => (pg_name (i := 4) sc_lost_moves.nd rfl (by first | exact Or.inl rfl | exact Or.inr rfl))) (tg_name 4) (fun _ _ _ _ _ => (pts_one (mt_w (mw_and (mt_cmp (op_neD hr.units) cmd_ne (mb (me_ix ix_seq opd_ix (mb_name 0 (pv 0)) (mb_name 4 (pv 4)) (fun _ _ => rfl))) (mb me_int) (nomark _)) (mw_and1 (mt_cmp (op_eqD hr.units) cmd_eq (mb (me_ix ix_seq opd_ix (mb_name 3 (pv 3)) (mb_name 4 (pv 4)) (fun _ _ => rfl))) (mb (me_ix ix_seq opd_ix (mb_name 3 (pv 3)) (mb (me_op opr_add opd_add (mb_name 4 (pv 4)) (mb me_int))) (fun _ _ => rfl))) (nomark _))))))) (fun _ _ _ z => z) (fun _ _ _ _ _ => (me_name 4 (pv 4)))))))
def tl3_o_Knob_go : Rho → Om → OutS := (lfS (sRet (e2 ixD (bnm 2) (cst (.int 0)))))
def tl2_o_Knob_go : Rho → Om → OutS := (oSeq (oFld 0 "now" (lf (nm 2))) tl3_o_Knob_go)
def tl1_o_Knob_go : Rho → Om → OutS := (oSeq (oFldN 0 "later") tl2_o_Knob_go)
def tl0_o_Knob_go : Rho → Om → OutS := (oSeq (oApp2 0 "past" 1 "now") tl1_o_Knob_go)
def mo_Knob_go : FO := fnMO0 3 3 (tl0_o_Knob_go)
theorem oko_Knob_go (T : Txt K mg) : FnOk Pr w K mg base CX0 1 T.a_Knob_go T.d_Knob_go ["self", "word", "state"] (spO K l mg T.C_Knob mo_Knob_go) := by
  refine fnOkO T.F_Knob_go sc_Knob_go (fun cdv A outer s H E c hc hr => ?_)
  subst hc
  exact (mos_cons (mo_app2 0 1 T.cl T.nf_past T.nf_now (pe_bm PySem.F.plainAttrs_list PySem.F.slot_list_append PySem.F.type_list_append mt_append (pe_fld (pv 0) rfl) (pa_cons (pe_tup (pa_cons (pv 1) (pa_cons (pe_fld (pv 0) rfl) pa_nil))) pa_nil)))
    (mos_cons (mo_fldN 0 (pv 0) T.cl T.nf_later)
    (mos_cons (mo_fld 0 (pv 0) (mx_of (fun ad G0 H0 => (me_name 2 (pv 2)))) T.cl T.nf_now)
    (mos_one (mo_of (fun ad G0 H0 => (ms_ret (me_ix ix_seq opd_ix (mb_name 2 (pv 2)) (mb me_int) (fun _ _ => rfl)))))))))
def tl4_o_Knob_lay : Rho → Om → OutS := (lfS (sRet (nm 2)))
def tl3_o_Knob_lay : Rho → Om → OutS := (oSeq (oDrop (xmeth 0 "go" mo_Knob_go (xcons (lf (cst (.str "lay"))) (xcons (xtup (xcons (lf (nm 1)) (xcons (lf (cst (.int 0))) (xcons (x2 ixD (xfld 0 "now") (lf (cst (.int 2)))) (xcons (x2 ixD (xfld 0 "now") (lf (cst (.int 3)))) xnil))))) xnil)))) tl4_o_Knob_lay)
def tl2_o_Knob_lay : Rho → Om → OutS := (oSeq (oSet 2 (x2 ixD (xfld 0 "now") (lf (cst (.int 0))))) tl3_o_Knob_lay)
def tl1_o_Knob_lay : Rho → Om → OutS := (oSeq (lfS (sIf (notT (e1 asB (call m_is_whole (cons' (nm 1) (cons' (nm 3) (cons' (nm 4) (cst []))))))) sBad sNil)) tl2_o_Knob_lay)
def tl0_o_Knob_lay : Rho → Om → OutS := (oSeq (oUnp (bTup [3, 4, 5]) (xfld 0 "own")) tl1_o_Knob_lay)
def mo_Knob_lay : FO := fnMO0 2 6 (tl0_o_Knob_lay)
theorem oko_Knob_lay (T : Txt K mg) : FnOk Pr w K mg base CX0 2 T.a_Knob_lay T.d_Knob_lay ["self", "number"] (spO K l mg T.C_Knob mo_Knob_lay) := by
  refine fnOkO T.F_Knob_lay sc_Knob_lay (fun cdv A outer s H E c hc hr => ?_)
  subst hc
  exact (mos_cons (mo_unp (vs := [3, 4, 5]) (mx_fld 0 (pv 0) T.cl T.nf_own) (pg_tup (n := 3) rfl (pgs_cons (pg_name (i := 3) sc_Knob_lay.nd rfl (by first | exact Or.inl rfl | exact Or.inr rfl)) (pgs_cons (pg_name (i := 4) sc_Knob_lay.nd rfl (by first | exact Or.inl rfl | exact Or.inr rfl)) (pgs_cons (pg_name (i := 5) sc_Knob_lay.nd rfl (by first | exact Or.inl rfl | exact Or.inr rfl)) pgs_nil)))) (fun ad G0 H0 => (tg_tup (tgs_cons 3 (tgs_cons 4 (tgs_cons 5 tgs_nil))))))
    (mos_cons (mo_of (fun ad G0 H0 => (ms_if (mt_not (mt_val (mb (me_call (ok_is_whole T) (hr.mono (by decide)) (by rfl) T.g_is_whole T.F_is_whole.kp T.b_is_whole (ma_cons (me_name 1 (pv 1)) (ma_cons (me_name 3 (pv 3)) (ma_cons (me_name 4 (pv 4)) ma_nil))))))) (mss_one ms_never) mss_nil)))
    (mos_cons (mo_set (i := 2) sc_Knob_lay.nd rfl (by first | exact Or.inl rfl | exact Or.inr rfl) (mx_ix ix_seq (fun _ => opd_ix) (mx_fld 0 (pv 0) T.cl T.nf_now) (mx_of (fun ad G0 H0 => me_int)) (fun _ _ => rfl)))
    (mos_cons (mo_expr (mx_meth0 0 (pv 0) T.cl T.h_Knob_go (oko_Knob_go T) (hr.mono (by decide)) T.b_Knob_go (max_cons (mx_of (fun ad G0 H0 => me_str)) (max_cons (mx_tup (max_cons (mx_of (fun ad G0 H0 => (me_name 1 (pv 1)))) (max_cons (mx_of (fun ad G0 H0 => me_int)) (max_cons (mx_ix ix_seq (fun _ => opd_ix) (mx_fld 0 (pv 0) T.cl T.nf_now) (mx_of (fun ad G0 H0 => me_int)) (fun _ _ => rfl)) (max_cons (mx_ix ix_seq (fun _ => opd_ix) (mx_fld 0 (pv 0) T.cl T.nf_now) (mx_of (fun ad G0 H0 => me_int)) (fun _ _ => rfl)) max_nil))))) max_nil))))
    (mos_one (mo_of (fun ad G0 H0 => (ms_ret (me_name 2 (pv 2))))))))))
def tl0_o_Knob_worth : Rho → Om → OutS := (oRet (x2 ixD (xfld 0 "now") (lf (cst (.int 0)))))
def mo_Knob_worth : FO := fnMO0 1 1 (tl0_o_Knob_worth)
theorem oko_Knob_worth (T : Txt K mg) : FnOk Pr w K mg base CX0 1 T.a_Knob_worth T.d_Knob_worth ["self"] (spO K l mg T.C_Knob mo_Knob_worth) := by
  refine fnOkO T.F_Knob_worth sc_Knob_worth (fun cdv A outer s H E c hc hr => ?_)
  subst hc
  exact (mos_one (mo_ret (mx_ix ix_seq (fun _ => opd_ix) (mx_fld 0 (pv 0) T.cl T.nf_now) (mx_of (fun ad G0 H0 => me_int)) (fun _ _ => rfl))))
def tl4_o_Knob___init__ : Rho → Om → OutS := (oFldN 0 "later")
def tl3_o_Knob___init__ : Rho → Om → OutS := (oSeq (oFldN 0 "past") tl4_o_Knob___init__)
def tl2_o_Knob___init__ : Rho → Om → OutS := (oSeq (oFld 0 "now" (lf (tupE (cons' (nm 1) (cons' (cst (.int 0)) (cons' (cst .none) (cons' (cst (.int 0)) (cst [])))))))) tl3_o_Knob___init__)
def tl1_o_Knob___init__ : Rho → Om → OutS := (oSeq (oFld 0 "own" (lf (tupE (cons' (nm 1) (cons' (nm 2) (cons' (nm 3) (cst []))))))) tl2_o_Knob___init__)
def tl0_o_Knob___init__ : Rho → Om → OutS := (oSeq (lfS (sIf (orT (notT (e1 asB (call m_is_whole (cons' (nm 1) (cons' (e2 subD (cst (.int 0)) (cst (.int 999))) (cons' (cst (.int 999)) (cst []))))))) (orT (notT (e1 asB (call m_is_whole (cons' (nm 2) (cons' (nm 1) (cons' (cst (.int 999)) (cst []))))))) (notT (e1 asB (call m_is_whole (cons' (nm 3) (cons' (cst (.int 1)) (cons' (cst (.int 9)) (cst []))))))))) sBad sNil)) tl1_o_Knob___init__)
def mo_Knob___init__ : FO := fnMO0 4 4 (tl0_o_Knob___init__)
theorem oko_Knob___init__ (T : Txt K mg) : FnOk Pr w K mg base CX0 2 T.a_Knob___init__ T.d_Knob___init__ ["self", "low", "high", "every"] (spO K l mg T.C_Knob mo_Knob___init__) := by
  refine fnOkO T.F_Knob___init__ sc_Knob___init__ (fun cdv A outer s H E c hc hr => ?_)
  subst hc
  exact (mos_cons (mo_of (fun ad G0 H0 => (ms_if (mt_w (mw_or (mt_not (mt_val (mb (me_call (ok_is_whole T) (hr.mono (by decide)) (by rfl) T.g_is_whole T.F_is_whole.kp T.b_is_whole (ma_cons (me_name 1 (pv 1)) (ma_cons (me_op op_sub opd_sub (mb me_int) (mb (me_globI (by rfl) T.c_FAR))) (ma_cons (me_globI (by rfl) T.c_FAR) ma_nil))))))) (mw_or (mt_not (mt_val (mb (me_call (ok_is_whole T) (hr.mono (by decide)) (by rfl) T.g_is_whole T.F_is_whole.kp T.b_is_whole (ma_cons (me_name 2 (pv 2)) (ma_cons (me_name 1 (pv 1)) (ma_cons (me_globI (by rfl) T.c_FAR) ma_nil))))))) (mw_or1 (mt_not (mt_val (mb (me_call (ok_is_whole T) (hr.mono (by decide)) (by rfl) T.g_is_whole T.F_is_whole.kp T.b_is_whole (ma_cons (me_name 3 (pv 3)) (ma_cons me_int (ma_cons me_int ma_nil))))))))))) (mss_one ms_never) mss_nil)))
    (mos_cons (mo_fld 0 (pv 0) (mx_of (fun ad G0 H0 => (me_tup (ma_cons (me_name 1 (pv 1)) (ma_cons (me_name 2 (pv 2)) (ma_cons (me_name 3 (pv 3)) ma_nil)))))) T.cl T.nf_own)
    (mos_cons (mo_fld 0 (pv 0) (mx_of (fun ad G0 H0 => (me_tup (ma_cons (me_name 1 (pv 1)) (ma_cons me_int (ma_cons me_non (ma_cons me_int ma_nil))))))) T.cl T.nf_now)
    (mos_cons (mo_fldN 0 (pv 0) T.cl T.nf_past)
    (mos_one (mo_fldN 0 (pv 0) T.cl T.nf_later))))))
def tl8_o_Knob_turn : Rho → Om → OutS := (oRet (xmeth 0 "go" mo_Knob_go (lf (cons' (cst (.str "turn")) (cons' (tupE (cons' (nm 4) (cons' (nm 3) (cons' (nm 1) (cons' (nm 6) (cst [])))))) (cst []))))))
def tl7_o_Knob_turn : Rho → Om → OutS := (oSeq (lfS (sIf (e2 eqD (bnm 3) (e2 subD (cst (.int 0)) (bnm 9))) (sPar 4 3 (nD (e1 maxD (cons' (bnm 7) (cons' (e2 subD (bnm 4) (cst (.int 1))) (cst []))))) (nD (cst (.int 0)))) sNil)) tl8_o_Knob_turn)
def tl6_o_Knob_turn : Rho → Om → OutS := (oSeq (lfS (sIf (e2 eqD (bnm 3) (bnm 9)) (sPar 4 3 (nD (e1 minD (cons' (bnm 8) (cons' (e2 addD (bnm 4) (cst (.int 1))) (cst []))))) (nD (cst (.int 0)))) sNil)) tl7_o_Knob_turn)
def tl5_o_Knob_turn : Rho → Om → OutS := (oSeq (lfS (sSet 3 (nD (e2 addD (bnm 3) (bnm 2))))) tl6_o_Knob_turn)
def tl4_o_Knob_turn : Rho → Om → OutS := (oSeq (oIf (lf (e2 isD (bnm 2) (cst .none))) (oRet (xmeth 0 "go" mo_Knob_go (lf (cons' (cst (.str "turn")) (cons' (tupE (cons' (nm 4) (cons' (cst (.int 0)) (cons' (nm 1) (cons' (e2 addD (bnm 6) (cst (.int 1))) (cst [])))))) (cst [])))))) oNil) tl5_o_Knob_turn)
def tl3_o_Knob_turn : Rho → Om → OutS := (oSeq (lfS (sSet 2 (nD (ifE (e2 isntD (bnm 5) (cst .none)) (call m_step_between (cons' (nm 5) (cons' (nm 1) (cst [])))) (cst (.int 0)))))) tl4_o_Knob_turn)
def tl2_o_Knob_turn : Rho → Om → OutS := (oSeq (oUnp (bTup [7, 8, 9]) (xfld 0 "own")) tl3_o_Knob_turn)
def tl1_o_Knob_turn : Rho → Om → OutS := (oSeq (oUnp (bTup [4, 3, 5, 6]) (xfld 0 "now")) tl2_o_Knob_turn)
def tl0_o_Knob_turn : Rho → Om → OutS := (oSeq (lfS (sIf (notT (e1 asB (call m_is_sample (cons' (nm 1) (cst []))))) sBad sNil)) tl1_o_Knob_turn)
def mo_Knob_turn : FO := fnMO0 2 10 (tl0_o_Knob_turn)
theorem oko_Knob_turn (T : Txt K mg) : FnOk Pr w K mg base CX0 3 T.a_Knob_turn T.d_Knob_turn ["self", "sample"] (spO K l mg T.C_Knob mo_Knob_turn) := by
  refine fnOkO T.F_Knob_turn sc_Knob_turn (fun cdv A outer s H E c hc hr => ?_)
  subst hc
  exact (mos_cons (mo_of (fun ad G0 H0 => (ms_if (mt_not (mt_val (mb (me_call (ok_is_sample T) (hr.mono (by decide)) (by rfl) T.g_is_sample T.F_is_sample.kp T.b_is_sample (ma_cons (me_name 1 (pv 1)) ma_nil))))) (mss_one ms_never) mss_nil)))
    (mos_cons (mo_unp (vs := [4, 3, 5, 6]) (mx_fld 0 (pv 0) T.cl T.nf_now) (pg_tup (n := 4) rfl (pgs_cons (pg_name (i := 4) sc_Knob_turn.nd rfl (by first | exact Or.inl rfl | exact Or.inr rfl)) (pgs_cons (pg_name (i := 3) sc_Knob_turn.nd rfl (by first | exact Or.inl rfl | exact Or.inr rfl)) (pgs_cons (pg_name (i := 5) sc_Knob_turn.nd rfl (by first | exact Or.inl rfl | exact Or.inr rfl)) (pgs_cons (pg_name (i := 6) sc_Knob_turn.nd rfl (by first | exact Or.inl rfl | exact Or.inr rfl)) pgs_nil))))) (fun ad G0 H0 => (tg_tup (tgs_cons 4 (tgs_cons 3 (tgs_cons 5 (tgs_cons 6 tgs_nil)))))))
    (mos_cons (mo_unp (vs := [7, 8, 9]) (mx_fld 0 (pv 0) T.cl T.nf_own) (pg_tup (n := 3) rfl (pgs_cons (pg_name (i := 7) sc_Knob_turn.nd rfl (by first | exact Or.inl rfl | exact Or.inr rfl)) (pgs_cons (pg_name (i := 8) sc_Knob_turn.nd rfl (by first | exact Or.inl rfl | exact Or.inr rfl)) (pgs_cons (pg_name (i := 9) sc_Knob_turn.nd rfl (by first | exact Or.inl rfl | exact Or.inr rfl)) pgs_nil)))) (fun ad G0 H0 => (tg_tup (tgs_cons 7 (tgs_cons 8 (tgs_cons 9 tgs_nil))))))
    (mos_cons (mo_of (fun ad G0 H0 => (ms_set (i := 2) sc_Knob_turn.nd rfl (by first | exact Or.inl rfl | exact Or.inr rfl) (mn_d (me_if (mt_cmp opr_isnt cmd_isnt (mb_name 5 (pv 5)) (mb me_non) (nomark _)) (me_call (ok_step_between T) (hr.mono (by decide)) (by rfl) T.g_step_between T.F_step_between.kp T.b_step_between (ma_cons (me_name 5 (pv 5)) (ma_cons (me_name 1 (pv 1)) ma_nil))) me_int)))))
    (mos_cons (mo_if (mtx_of (fun ad G0 H0 => (mt_cmp opr_is cmd_is (mb_name 2 (pv 2)) (mb me_non) (nomark _)))) (mos_one (mo_ret (mx_meth0 0 (pv 0) T.cl T.h_Knob_go (oko_Knob_go T) (hr.mono (by decide)) T.b_Knob_go (max_of (fun ad G0 H0 => (ma_cons me_str (ma_cons (me_tup (ma_cons (me_name 4 (pv 4)) (ma_cons me_int (ma_cons (me_name 1 (pv 1)) (ma_cons (me_op opr_add opd_add (mb_name 6 (pv 6)) (mb me_int)) ma_nil))))) ma_nil))))))) mos_nil)
    (mos_cons (mo_of (fun ad G0 H0 => (ms_set (i := 3) sc_Knob_turn.nd rfl (by first | exact Or.inl rfl | exact Or.inr rfl) (mn_d (me_op opr_add opd_add (mb_name 3 (pv 3)) (mb_name 2 (pv 2)))))))
    (mos_cons (mo_of (fun ad G0 H0 => (ms_if (mt_cmp (op_eqD hr.units) cmd_eq (mb_name 3 (pv 3)) (mb_name 9 (pv 9)) (nomark _)) (mss_one (ms_par (i := 4) (j := 3) rfl sc_Knob_turn.nd rfl rfl (by decide) rfl rfl (mn_d (me_callB (car_min rfl) cad_min (by rfl) T.z_min bt_min (mba_cons (mb_name 8 (pv 8)) (mba_cons (mb (me_op opr_add opd_add (mb_name 4 (pv 4)) (mb me_int))) mba_nil)))) (mn_d me_int) (by rfl))) mss_nil)))
    (mos_cons (mo_of (fun ad G0 H0 => (ms_if (mt_cmp (op_eqD hr.units) cmd_eq (mb_name 3 (pv 3)) (mb (me_op op_sub opd_sub (mb me_int) (mb_name 9 (pv 9)))) (nomark _)) (mss_one (ms_par (i := 4) (j := 3) rfl sc_Knob_turn.nd rfl rfl (by decide) rfl rfl (mn_d (me_callB (car_max rfl) cad_max (by rfl) T.z_max bt_max (mba_cons (mb_name 7 (pv 7)) (mba_cons (mb (me_op op_sub opd_sub (mb_name 4 (pv 4)) (mb me_int))) mba_nil)))) (mn_d me_int) (by rfl))) mss_nil)))
    (mos_one (mo_ret (mx_meth0 0 (pv 0) T.cl T.h_Knob_go (oko_Knob_go T) (hr.mono (by decide)) T.b_Knob_go (max_of (fun ad G0 H0 => (ma_cons me_str (ma_cons (me_tup (ma_cons (me_name 4 (pv 4)) (ma_cons (me_name 3 (pv 3)) (ma_cons (me_name 1 (pv 1)) (ma_cons (me_name 6 (pv 6)) ma_nil))))) ma_nil)))))))))))))))
def ce1_o_law (P : Int → Int → Int) : Rho → R D := (e2 ixD (lstE (cons' (cst (.int 1)) (cons' (cst (.int 1)) (cons' (e1 negD (cst (.int 1))) (cons' (e1 negD (cst (.int 1))) (cons' (cst (.int 0)) (cst []))))))) (call (pickF P) (cons' (nm 0) (cons' (e2 addD (cst (.int 10)) (bnm 6)) (cons' (cst (.int 5)) (cst []))))))
def lb2_o_law : Rho → Om → OutS := (oSeq (oSet 12 (x2 subD (x2 addD (xmeth 10 "turn" mo_Knob_turn (lf (cons' (e2 ixD (bnm 8) (bnm 6)) (cst [])))) (lf (nm 3))) (xmeth 11 "turn" mo_Knob_turn (lf (cons' (e2 ixD (bnm 9) (bnm 6)) (cst []))))))
    (oIf (xorT (lf (notT (chE leD leD (cst (.int 0)) (bnm 12) (bnm 2)))) (x2 neD (xmeth 11 "worth" mo_Knob_worth xnil) (lf (e2 ixD (bnm 4) (bnm 6))))) (lfS (sRet (cst (.bool false)))) oNil))
def ct3_o_law : Rho → R Bool := (andT (e2 neD (e2 ixD (bnm 1) (bnm 6)) (cst (.int 0))) (e2 eqD (e2 ixD (bnm 5) (bnm 6)) (cst (.int 0))))
def ct4_o_law : Rho → R Bool := (e2 gtD (e1 absD (cons' (bnm 14) (cst []))) (cst (.int 1)))
def tl12_o_law : Rho → Om → OutS := (lfS (sFrz 5 (sFrz 1 (sRet (andV (bv (e2 eqD (call m_lost_moves (cons' (nm 1) (cons' (nm 2) (cons' (nm 3) (cst []))))) (bnm 7))) (bv (e2 eqD (e1 lenD (cons' (lcD (lcE [14] (itE (nm 5)) (bName 14) ct4_o_law (nm 14))) (cst []))) (cst (.int 0)))))))))
def tl11_o_law : Rho → Om → OutS := (oSeq (lfS (sSet 7 (nO (lcE [6] (rg1 (e1 lenD (cons' (bnm 1) (cst [])))) (bName 6) ct3_o_law (nm 6))))) tl12_o_law)
def tl10_o_law : Rho → Om → OutS := (oSeq (oFor (rg1 (e1 lenD (cons' (bnm 8) (cst [])))) (bName 6) lb2_o_law) tl11_o_law)
def tl9_o_law : Rho → Om → OutS := (oSeq (oDrop (xmeth 11 "lay" mo_Knob_lay (lf (cons' (cst (.int 0)) (cst []))))) tl10_o_law)
def tl8_o_law : Rho → Om → OutS := (oSeq (oDrop (xmeth 10 "lay" mo_Knob_lay (lf (cons' (cst (.int 0)) (cst []))))) tl9_o_law)
def tl7_o_law : Rho → Om → OutS := (oSeq (oPar 10 11 (xmake mo_Knob___init__ (lf (cons' (e1 negD (cst (.int 99))) (cons' (cst (.int 99)) (cons' (cst (.int 1)) (cst [])))))) (xmake mo_Knob___init__ (lf (cons' (e1 negD (cst (.int 99))) (cons' (cst (.int 99)) (cons' (cst (.int 1)) (cst []))))))) tl8_o_law)
def tl6_o_law : Rho → Om → OutS := (oSeq (lfS (sIf (orT (e2 neD (call m_plain_count (cons' (nm 8) (cst []))) (e1 sumD (cons' (bnm 1) (cst [])))) (e2 neD (call m_plain_count (cons' (nm 9) (cst []))) (e2 ixD (bnm 4) (e1 negD (cst (.int 1)))))) (sRet (cst (.bool false))) sNil)) tl7_o_law)
def tl5_o_law : Rho → Om → OutS := (oSeq (lfS (sFrz 5 (sFrz 1 (sPar 8 9 (nD (call m_made_by (cons' (cst (.int 0)) (cons' (nm 1) (cst []))))) (nD (call m_made_by (cons' (cst (.int 0)) (cons' (nm 5) (cst []))))))))) tl6_o_law)
def tl4_o_law : Rho → Om → OutS := (oSeq (lfS (sSet 5 (nD (lcD (lcE [13, 14] (zpE (nm 4) (slE (bnm 4) (e1 asI (cst (.int 1))) (cst none))) (bTup [13, 14]) yes (e2 subD (bnm 14) (bnm 13))))))) tl5_o_law)
def tl3_o_law : Rho → Om → OutS := (oSeq (lfS (sFrz 1 (sSet 4 (nD (e2 addD (lstE (cons' (cst (.int 0)) (cst []))) (call m_followed (cons' (nm 1) (cons' (nm 2) (cons' (nm 3) (cst [])))))))))) tl4_o_law)
def tl2_o_law (P : Int → Int → Int) : Rho → Om → OutS := (oSeq (lfS (sSet 3 (nD (call (pickF P) (cons' (nm 0) (cons' (cst (.int 2)) (cons' (e2 addD (bnm 2) (cst (.int 1))) (cst [])))))))) tl3_o_law)
def tl1_o_law (P : Int → Int → Int) : Rho → Om → OutS := (oSeq (lfS (sSet 2 (nD (call (pickF P) (cons' (nm 0) (cons' (cst (.int 1)) (cons' (cst (.int 6)) (cst [])))))))) (tl2_o_law P))
def tl0_o_law (P : Int → Int → Int) : Rho → Om → OutS := (oSeq (lfS (sSet 1 (nD (lcD (lcE [6] (rg1 (call (pickF P) (cons' (nm 0) (cons' (cst (.int 0)) (cons' (cst (.int 31)) (cst [])))))) (bName 6) yes (ce1_o_law P)))))) (tl1_o_law P))
def mo_law (P : Int → Int → Int) : FO := fnMO0 1 15 ((tl0_o_law P))
theorem oko_law (T : Txt K mg) : FnOk Pr w K mg base CX0 6 T.a_law T.d_law ["script"] (spO K l mg T.C_Knob (mo_law (pick l))) := by
  refine fnOkO T.F_law sc_law (fun cdv A outer s H E c hc hr => ?_)
  subst hc
  exact (mos_cons (mo_of (fun ad G0 H0 => (ms_set (i := 1) sc_law.nd rfl (by first | exact Or.inl rfl | exact Or.inr rfl) (mn_d (me_lc (own := [("k", 6)]) rfl sc_law.nd (mi_range1 (by rfl) T.z_range (mb (me_call (ok__law_pick T) (hr.mono (by decide)) (by rfl) T.g__law_pick T.F__law_pick.kp T.b__law_pick (ma_cons (me_name 0 (pv 0)) (ma_cons me_int (ma_cons me_int ma_nil)))))) (blkOk_by (N := ["script", "moves", "play", "begin", "told", "other", "k", "lost", "row", "along", "knob", "beside", "far", "ahead", "one"]) (sc := defScope s_law) (by decide +kernel)) (fun _ _ _ _ _ => (pg_name (i := 6) sc_law.nd rfl (by first | exact Or.inl rfl | exact Or.inr rfl))) (tg_name 6) (fun _ _ _ _ _ => pts_nil) (fun _ _ _ z => yes_ok z) (fun _ _ _ _ _ => (me_ix ix_seq opd_ix (mb (me_lst (ma_cons me_int (ma_cons me_int (ma_cons (me_neg (mb me_int)) (ma_cons (me_neg (mb me_int)) (ma_cons me_int ma_nil))))))) (mb (me_call (ok__law_pick T) (hr.mono (by decide)) (by rfl) T.g__law_pick T.F__law_pick.kp T.b__law_pick (ma_cons (me_name 0 (pv 0)) (ma_cons (me_op opr_add opd_add (mb me_int) (mb_name 6 (pv 6))) (ma_cons me_int ma_nil))))) (fun _ _ => rfl))))))))
    (mos_cons (mo_of (fun ad G0 H0 => (ms_set (i := 2) sc_law.nd rfl (by first | exact Or.inl rfl | exact Or.inr rfl) (mn_d (me_call (ok__law_pick T) (hr.mono (by decide)) (by rfl) T.g__law_pick T.F__law_pick.kp T.b__law_pick (ma_cons (me_name 0 (pv 0)) (ma_cons me_int (ma_cons me_int ma_nil))))))))
    (mos_cons (mo_of (fun ad G0 H0 => (ms_set (i := 3) sc_law.nd rfl (by first | exact Or.inl rfl | exact Or.inr rfl) (mn_d (me_call (ok__law_pick T) (hr.mono (by decide)) (by rfl) T.g__law_pick T.F__law_pick.kp T.b__law_pick (ma_cons (me_name 0 (pv 0)) (ma_cons me_int (ma_cons (me_op opr_add opd_add (mb_name 2 (pv 2)) (mb me_int)) ma_nil))))))))
    (mos_cons (mo_of (fun ad G0 H0 => (ms_frz 1 (ms_set (i := 4) sc_law.nd rfl (by first | exact Or.inl rfl | exact Or.inr rfl) (mn_d (me_op opr_add opd_add (mb (me_lst (ma_cons me_int ma_nil))) (mb (me_call (ok_followed T) (hr.mono (by decide)) (by rfl) T.g_followed T.F_followed.kp T.b_followed (ma_cons (me_name 1 (pv 1)) (ma_cons (me_name 2 (pv 2)) (ma_cons (me_name 3 (pv 3)) ma_nil)))))))))))
    (mos_cons (mo_of (fun ad G0 H0 => (ms_set (i := 5) sc_law.nd rfl (by first | exact Or.inl rfl | exact Or.inr rfl) (mn_d (me_lc (own := [("ahead", 13), ("one", 14)]) rfl sc_law.nd (mi_zip (by rfl) T.z_zip (me_name 4 (pv 4)) (me_slice (mb_name 4 (pv 4)) (mo_some (mb me_int)) mo_none)) (blkOk_by (N := ["script", "moves", "play", "begin", "told", "other", "k", "lost", "row", "along", "knob", "beside", "far", "ahead", "one"]) (sc := defScope s_law) (by decide +kernel)) (fun _ _ _ _ _ => (pg_tup (n := 2) rfl (pgs_cons (pg_name (i := 13) sc_law.nd rfl (by first | exact Or.inl rfl | exact Or.inr rfl)) (pgs_cons (pg_name (i := 14) sc_law.nd rfl (by first | exact Or.inl rfl | exact Or.inr rfl)) pgs_nil)))) (tg_tup (tgs_cons 13 (tgs_cons 14 tgs_nil))) (fun _ _ _ _ _ => pts_nil) (fun _ _ _ z => yes_ok z) (fun _ _ _ _ _ => (me_op op_sub opd_sub (mb_name 14 (pv 14)) (mb_name 13 (pv 13)))))))))
    (mos_cons (mo_of (fun ad G0 H0 => (ms_frz 5 (ms_frz 1 (ms_par (i := 8) (j := 9) rfl sc_law.nd rfl rfl (by decide) rfl rfl (mn_d (me_call (ok_made_by T) (hr.mono (by decide)) (by rfl) T.g_made_by T.F_made_by.kp T.b_made_by (ma_cons me_int (ma_cons (me_name 1 (pv 1)) ma_nil)))) (mn_d (me_call (ok_made_by T) (hr.mono (by decide)) (by rfl) T.g_made_by T.F_made_by.kp T.b_made_by (ma_cons me_int (ma_cons (me_name 5 (pv 5)) ma_nil)))) (by rfl))))))
    (mos_cons (mo_of (fun ad G0 H0 => (ms_if (mt_w (mw_or (mt_cmp (op_neD hr.units) cmd_ne (mb (me_call (ok_plain_count T) (hr.mono (by decide)) (by rfl) T.g_plain_count T.F_plain_count.kp T.b_plain_count (ma_cons (me_name 8 (pv 8)) ma_nil))) (mb (me_callB (cr_sum rfl) cad_sum (by rfl) T.z_sum bt_sum (mba_cons (mb_name 1 (pv 1)) mba_nil))) (nomark _)) (mw_or1 (mt_cmp (op_neD hr.units) cmd_ne (mb (me_call (ok_plain_count T) (hr.mono (by decide)) (by rfl) T.g_plain_count T.F_plain_count.kp T.b_plain_count (ma_cons (me_name 9 (pv 9)) ma_nil))) (mb (me_ix ix_seq opd_ix (mb_name 4 (pv 4)) (mb (me_neg (mb me_int))) (fun _ _ => rfl))) (nomark _))))) (mss_one (ms_ret me_bl)) mss_nil)))
    (mos_cons (mo_par (i := 10) (j := 11) rfl sc_law.nd rfl rfl (by decide) rfl rfl (mx_make0 T.mkC (oko_Knob___init__ T) (hr.mono (by decide)) (by rfl) T.g_Knob T.b_Knob___init__ (max_of (fun ad G0 H0 => (ma_cons (me_neg (mb me_int)) (ma_cons me_int (ma_cons me_int ma_nil)))))) (mx_make0 T.mkC (oko_Knob___init__ T) (hr.mono (by decide)) (by rfl) T.g_Knob T.b_Knob___init__ (max_of (fun ad G0 H0 => (ma_cons (me_neg (mb me_int)) (ma_cons me_int (ma_cons me_int ma_nil)))))) (by rfl))
    (mos_cons (mo_expr (mx_meth0 10 (pv 10) T.cl T.h_Knob_lay (oko_Knob_lay T) (hr.mono (by decide)) T.b_Knob_lay (max_of (fun ad G0 H0 => (ma_cons me_int ma_nil)))))
    (mos_cons (mo_expr (mx_meth0 11 (pv 11) T.cl T.h_Knob_lay (oko_Knob_lay T) (hr.mono (by decide)) T.b_Knob_lay (max_of (fun ad G0 H0 => (ma_cons me_int ma_nil)))))
    (mos_cons (mo_for (vs := [6]) PassesOwn.never rfl (fun ad G0 H0 => (mi_range1 (by rfl) T.z_range (mb (me_callB call_len cad_len (by rfl) T.z_len bt_len (mba_cons (mb_name 8 (pv 8)) mba_nil))))) (pg_name (i := 6) sc_law.nd rfl (by first | exact Or.inl rfl | exact Or.inr rfl)) (fun ad G0 H0 => (tg_name 6)) (mos_cons (mo_set (i := 12) sc_law.nd rfl (by first | exact Or.inl rfl | exact Or.inr rfl) (mx_op op_sub (fun _ => opd_sub) (mx_op opr_add (fun _ => opd_add) (mx_meth0 10 (pv 10) T.cl T.h_Knob_turn (oko_Knob_turn T) (hr.mono (by decide)) T.b_Knob_turn (max_of (fun ad G0 H0 => (ma_cons (me_ix ix_seq opd_ix (mb_name 8 (pv 8)) (mb_name 6 (pv 6)) (fun _ _ => rfl)) ma_nil)))) (mx_of (fun ad G0 H0 => (me_name 3 (pv 3))))) (mx_meth0 11 (pv 11) T.cl T.h_Knob_turn (oko_Knob_turn T) (hr.mono (by decide)) T.b_Knob_turn (max_of (fun ad G0 H0 => (ma_cons (me_ix ix_seq opd_ix (mb_name 9 (pv 9)) (mb_name 6 (pv 6)) (fun _ _ => rfl)) ma_nil))))))
    (mos_one (mo_if (mtx_w (mwx_or (mtx_of (fun ad G0 H0 => (mt_not (mt_chain op_le op_le cmd_le cmd_le (mb me_int) (mb_name 12 (pv 12)) (mb_name 2 (pv 2)))))) (mwx_or1 (mtx_cmp (op_neD hr.units) (fun _ => cmd_ne) (mx_meth00 11 (pv 11) T.cl T.h_Knob_worth (oko_Knob_worth T) (hr.mono (by decide)) T.b_Knob_worth) (mx_of (fun ad G0 H0 => (me_ix ix_seq opd_ix (mb_name 4 (pv 4)) (mb_name 6 (pv 6)) (fun _ _ => rfl)))) (nomark _))))) (mos_one (mo_of (fun ad G0 H0 => (ms_ret me_bl)))) mos_nil))))
    (mos_cons (mo_of (fun ad G0 H0 => (ms_setLc (i := 7) (y := "lost") (own := [("k", 6)]) rfl sc_law.nd rfl rfl (sw_true rfl rfl rfl (by decide +kernel)) (mi_range1 (by rfl) T.z_range (mb (me_callB call_len cad_len (by rfl) T.z_len bt_len (mba_cons (mb_name 1 (pv 1)) mba_nil)))) (blkOk_by (N := ["script", "moves", "play", "begin", "told", "other", "k", "lost", "row", "along", "knob", "beside", "far", "ahead", "one"]) (sc := defScope s_law) (by decide +kernel)) (fun _ _ _ _ _ => (pg_name (i := 6) sc_law.nd rfl (by first | exact Or.inl rfl | exact Or.inr rfl))) (tg_name 6) (fun _ _ _ _ _ => (pts_one (mt_w (mw_and (mt_cmp (op_neD hr.units) cmd_ne (mb (me_ix ix_seq opd_ix (mb_name 1 (pv 1)) (mb_name 6 (pv 6)) (fun _ _ => rfl))) (mb me_int) (nomark _)) (mw_and1 (mt_cmp (op_eqD hr.units) cmd_eq (mb (me_ix ix_seq opd_ix (mb_name 5 (pv 5)) (mb_name 6 (pv 6)) (fun _ _ => rfl))) (mb me_int) (nomark _))))))) (fun _ _ _ z => z) (fun _ _ _ _ _ => (me_name 6 (pv 6))))))
    (mos_one (mo_of (fun ad G0 H0 => (ms_frz 5 (ms_frz 1 (ms_ret (me_and (mb (me_cmp (op_eqD hr.units) cmd_eq (mb (me_call (ok_lost_moves T) (hr.mono (by decide)) (by rfl) T.g_lost_moves T.F_lost_moves.kp T.b_lost_moves (ma_cons (me_name 1 (pv 1)) (ma_cons (me_name 2 (pv 2)) (ma_cons (me_name 3 (pv 3)) ma_nil))))) (mb_name 7 (pv 7)) (nomark _))) (me_one (me_cmp (op_eqD hr.units) cmd_eq (mb (me_callB call_len cad_len (by rfl) T.z_len bt_len (mba_cons (mb (me_lc (own := [("one", 14)]) rfl sc_law.nd (mi_of (me_name 5 (pv 5))) (blkOk_by (N := ["script", "moves", "play", "begin", "told", "other", "k", "lost", "row", "along", "knob", "beside", "far", "ahead", "one"]) (sc := defScope s_law) (by decide +kernel)) (fun _ _ _ _ _ => (pg_name (i := 14) sc_law.nd rfl (by first | exact Or.inl rfl | exact Or.inr rfl))) (tg_name 14) (fun _ _ _ _ _ => (pts_one (mt_cmp op_gt cmd_gt (mb (me_callB call_abs cad_abs (by rfl) T.z_abs bt_abs (mba_cons (mb_name 14 (pv 14)) mba_nil))) (mb me_int) (nomark _)))) (fun _ _ _ z => z) (fun _ _ _ _ _ => (me_name 14 (pv 14))))) mba_nil))) (mb me_int) (nomark _))))))))))))))))))))))
end
def txt_mk {K : PySem.W.Frag} {h : Heap} {mg : Str → Option Value} (X : K.In h) (Gg : h.Ns mainGlobals mg)
    {f0 : Addr} {od0 an0 : Option Addr} {sl0 : Array (Option Value)} {oc0 kV0 dc0 pm0 cd0 ct0 : Value}
    (a0 : PySem.W.nsIn K mainGlobals "_law_cell" = some (some (.ref f0))) (l0 : K.lookup f0 = some ⟨oc0, od0, .func (PySem.W.fnOf "_law_cell" "_law_cell" (defArgs s__law_cell) (defBody s__law_cell) (defScope s__law_cell) .none kV0 dc0 pm0 an0 cd0 ct0), sl0⟩) (e0 : PySem.W.codeIn K cd0 "_law_cell" = true) (k0 : PySem.W.keepIn K (.ref f0) = true)
    {f1 : Addr} {od1 an1 : Option Addr} {sl1 : Array (Option Value)} {oc1 kV1 dc1 pm1 cd1 ct1 : Value}
    (a1 : PySem.W.nsIn K mainGlobals "_law_pick" = some (some (.ref f1))) (l1 : K.lookup f1 = some ⟨oc1, od1, .func (PySem.W.fnOf "_law_pick" "_law_pick" (defArgs s__law_pick) (defBody s__law_pick) (defScope s__law_pick) .none kV1 dc1 pm1 an1 cd1 ct1), sl1⟩) (e1 : PySem.W.codeIn K cd1 "_law_pick" = true) (k1 : PySem.W.keepIn K (.ref f1) = true)
    {f2 : Addr} {od2 an2 : Option Addr} {sl2 : Array (Option Value)} {oc2 kV2 dc2 pm2 cd2 ct2 : Value}
    (a2 : PySem.W.nsIn K mainGlobals "is_whole" = some (some (.ref f2))) (l2 : K.lookup f2 = some ⟨oc2, od2, .func (PySem.W.fnOf "is_whole" "is_whole" (defArgs s_is_whole) (defBody s_is_whole) (defScope s_is_whole) .none kV2 dc2 pm2 an2 cd2 ct2), sl2⟩) (e2 : PySem.W.codeIn K cd2 "is_whole" = true) (k2 : PySem.W.keepIn K (.ref f2) = true)
    {f3 : Addr} {od3 an3 : Option Addr} {sl3 : Array (Option Value)} {oc3 kV3 dc3 pm3 cd3 ct3 : Value}
    (a3 : PySem.W.nsIn K mainGlobals "look_moves" = some (some (.ref f3))) (l3 : K.lookup f3 = some ⟨oc3, od3, .func (PySem.W.fnOf "look_moves" "look_moves" (defArgs s_look_moves) (defBody s_look_moves) (defScope s_look_moves) .none kV3 dc3 pm3 an3 cd3 ct3), sl3⟩) (e3 : PySem.W.codeIn K cd3 "look_moves" = true) (k3 : PySem.W.keepIn K (.ref f3) = true)
    {f4 : Addr} {od4 an4 : Option Addr} {sl4 : Array (Option Value)} {oc4 kV4 dc4 pm4 cd4 ct4 : Value}
    (a4 : PySem.W.nsIn K mainGlobals "go_along" = some (some (.ref f4))) (l4 : K.lookup f4 = some ⟨oc4, od4, .func (PySem.W.fnOf "go_along" "go_along" (defArgs s_go_along) (defBody s_go_along) (defScope s_go_along) .none kV4 dc4 pm4 an4 cd4 ct4), sl4⟩) (e4 : PySem.W.codeIn K cd4 "go_along" = true) (k4 : PySem.W.keepIn K (.ref f4) = true)
    {f5 : Addr} {od5 an5 : Option Addr} {sl5 : Array (Option Value)} {oc5 kV5 dc5 pm5 cd5 ct5 : Value}
    (a5 : PySem.W.nsIn K mainGlobals "followed" = some (some (.ref f5))) (l5 : K.lookup f5 = some ⟨oc5, od5, .func (PySem.W.fnOf "followed" "followed" (defArgs s_followed) (defBody s_followed) (defScope s_followed) .none kV5 dc5 pm5 an5 cd5 ct5), sl5⟩) (e5 : PySem.W.codeIn K cd5 "followed" = true) (k5 : PySem.W.keepIn K (.ref f5) = true)
    {f6 : Addr} {od6 an6 : Option Addr} {sl6 : Array (Option Value)} {oc6 kV6 dc6 pm6 cd6 ct6 : Value}
    (a6 : PySem.W.nsIn K mainGlobals "is_sample" = some (some (.ref f6))) (l6 : K.lookup f6 = some ⟨oc6, od6, .func (PySem.W.fnOf "is_sample" "is_sample" (defArgs s_is_sample) (defBody s_is_sample) (defScope s_is_sample) .none kV6 dc6 pm6 an6 cd6 ct6), sl6⟩) (e6 : PySem.W.codeIn K cd6 "is_sample" = true) (k6 : PySem.W.keepIn K (.ref f6) = true)
    {f7 : Addr} {od7 an7 : Option Addr} {sl7 : Array (Option Value)} {oc7 kV7 dc7 pm7 cd7 ct7 : Value}
    (a7 : PySem.W.nsIn K mainGlobals "is_any_whole" = some (some (.ref f7))) (l7 : K.lookup f7 = some ⟨oc7, od7, .func (PySem.W.fnOf "is_any_whole" "is_any_whole" (defArgs s_is_any_whole) (defBody s_is_any_whole) (defScope s_is_any_whole) .none kV7 dc7 pm7 an7 cd7 ct7), sl7⟩) (e7 : PySem.W.codeIn K cd7 "is_any_whole" = true) (k7 : PySem.W.keepIn K (.ref f7) = true)
    {f8 : Addr} {od8 an8 : Option Addr} {sl8 : Array (Option Value)} {oc8 kV8 dc8 pm8 cd8 ct8 : Value}
    (a8 : PySem.W.nsIn K mainGlobals "made_by" = some (some (.ref f8))) (l8 : K.lookup f8 = some ⟨oc8, od8, .func (PySem.W.fnOf "made_by" "made_by" (defArgs s_made_by) (defBody s_made_by) (defScope s_made_by) .none kV8 dc8 pm8 an8 cd8 ct8), sl8⟩) (e8 : PySem.W.codeIn K cd8 "made_by" = true) (k8 : PySem.W.keepIn K (.ref f8) = true)
    {f9 : Addr} {od9 an9 : Option Addr} {sl9 : Array (Option Value)} {oc9 kV9 dc9 pm9 cd9 ct9 : Value}
    (a9 : PySem.W.nsIn K mainGlobals "is_row" = some (some (.ref f9))) (l9 : K.lookup f9 = some ⟨oc9, od9, .func (PySem.W.fnOf "is_row" "is_row" (defArgs s_is_row) (defBody s_is_row) (defScope s_is_row) .none kV9 dc9 pm9 an9 cd9 ct9), sl9⟩) (e9 : PySem.W.codeIn K cd9 "is_row" = true) (k9 : PySem.W.keepIn K (.ref f9) = true)
    {f10 : Addr} {od10 an10 : Option Addr} {sl10 : Array (Option Value)} {oc10 kV10 dc10 pm10 cd10 ct10 : Value}
    (a10 : PySem.W.nsIn K mainGlobals "look_row" = some (some (.ref f10))) (l10 : K.lookup f10 = some ⟨oc10, od10, .func (PySem.W.fnOf "look_row" "look_row" (defArgs s_look_row) (defBody s_look_row) (defScope s_look_row) .none kV10 dc10 pm10 an10 cd10 ct10), sl10⟩) (e10 : PySem.W.codeIn K cd10 "look_row" = true) (k10 : PySem.W.keepIn K (.ref f10) = true)
    {f11 : Addr} {od11 an11 : Option Addr} {sl11 : Array (Option Value)} {oc11 kV11 dc11 pm11 cd11 ct11 : Value}
    (a11 : PySem.W.nsIn K mainGlobals "far_on" = some (some (.ref f11))) (l11 : K.lookup f11 = some ⟨oc11, od11, .func (PySem.W.fnOf "far_on" "far_on" (defArgs s_far_on) (defBody s_far_on) (defScope s_far_on) .none kV11 dc11 pm11 an11 cd11 ct11), sl11⟩) (e11 : PySem.W.codeIn K cd11 "far_on" = true) (k11 : PySem.W.keepIn K (.ref f11) = true)
    {f12 : Addr} {od12 an12 : Option Addr} {sl12 : Array (Option Value)} {oc12 kV12 dc12 pm12 cd12 ct12 : Value}
    (a12 : PySem.W.nsIn K mainGlobals "step_between" = some (some (.ref f12))) (l12 : K.lookup f12 = some ⟨oc12, od12, .func (PySem.W.fnOf "step_between" "step_between" (defArgs s_step_between) (defBody s_step_between) (defScope s_step_between) .none kV12 dc12 pm12 an12 cd12 ct12), sl12⟩) (e12 : PySem.W.codeIn K cd12 "step_between" = true) (k12 : PySem.W.keepIn K (.ref f12) = true)
    {f13 : Addr} {od13 an13 : Option Addr} {sl13 : Array (Option Value)} {oc13 kV13 dc13 pm13 cd13 ct13 : Value}
    (a13 : PySem.W.nsIn K mainGlobals "plain_count" = some (some (.ref f13))) (l13 : K.lookup f13 = some ⟨oc13, od13, .func (PySem.W.fnOf "plain_count" "plain_count" (defArgs s_plain_count) (defBody s_plain_count) (defScope s_plain_count) .none kV13 dc13 pm13 an13 cd13 ct13), sl13⟩) (e13 : PySem.W.codeIn K cd13 "plain_count" = true) (k13 : PySem.W.keepIn K (.ref f13) = true)
    {f14 : Addr} {od14 an14 : Option Addr} {sl14 : Array (Option Value)} {oc14 kV14 dc14 pm14 cd14 ct14 : Value}
    (a14 : PySem.W.nsIn K mainGlobals "lost_moves" = some (some (.ref f14))) (l14 : K.lookup f14 = some ⟨oc14, od14, .func (PySem.W.fnOf "lost_moves" "lost_moves" (defArgs s_lost_moves) (defBody s_lost_moves) (defScope s_lost_moves) .none kV14 dc14 pm14 an14 cd14 ct14), sl14⟩) (e14 : PySem.W.codeIn K cd14 "lost_moves" = true) (k14 : PySem.W.keepIn K (.ref f14) = true)
    {C_Knob : Addr} (c_Knob : PySem.W.nsIn K mainGlobals "Knob" = some (some (.ref C_Knob))) (cp : PySem.W.plainGet K C_Knob Str.empty = true) (ch : PySem.W.hasDictIn K C_Knob = true) (co : PySem.W.plainOver K C_Knob = true) (ca : PySem.W.findIn K (.ref C_Knob) "__setattr__" = some (some (.builtin "object.__setattr__")))
    (nf_own : PySem.W.findIn K (.ref C_Knob) "own" = some none)
    (nf_now : PySem.W.findIn K (.ref C_Knob) "now" = some none)
    (nf_past : PySem.W.findIn K (.ref C_Knob) "past" = some none)
    (nf_later : PySem.W.findIn K (.ref C_Knob) "later" = some none)
    {fo0 : Addr} {odo0 ano0 : Option Addr} {slo0 : Array (Option Value)} {oco0 kVo0 dco0 pmo0 cdo0 cto0 : Value} (ao0 : PySem.W.findIn K (.ref C_Knob) "go" = some (some (.ref fo0))) (io0 : PySem.W.isFn K (.ref fo0) = true)
    (lo0 : K.lookup fo0 = some ⟨oco0, odo0, .func (PySem.W.fnOf "go" "Knob.go" (defArgs s_Knob_go) (defBody s_Knob_go) (defScope s_Knob_go) .none kVo0 dco0 pmo0 ano0 cdo0 cto0), slo0⟩) (eo0 : PySem.W.codeIn K cdo0 "Knob.go" = true) (ko0 : PySem.W.keepIn K (.ref fo0) = true)
    {fo1 : Addr} {odo1 ano1 : Option Addr} {slo1 : Array (Option Value)} {oco1 kVo1 dco1 pmo1 cdo1 cto1 : Value} (ao1 : PySem.W.findIn K (.ref C_Knob) "lay" = some (some (.ref fo1))) (io1 : PySem.W.isFn K (.ref fo1) = true)
    (lo1 : K.lookup fo1 = some ⟨oco1, odo1, .func (PySem.W.fnOf "lay" "Knob.lay" (defArgs s_Knob_lay) (defBody s_Knob_lay) (defScope s_Knob_lay) .none kVo1 dco1 pmo1 ano1 cdo1 cto1), slo1⟩) (eo1 : PySem.W.codeIn K cdo1 "Knob.lay" = true) (ko1 : PySem.W.keepIn K (.ref fo1) = true)
    {fo2 : Addr} {odo2 ano2 : Option Addr} {slo2 : Array (Option Value)} {oco2 kVo2 dco2 pmo2 cdo2 cto2 : Value} (ao2 : PySem.W.findIn K (.ref C_Knob) "worth" = some (some (.ref fo2))) (io2 : PySem.W.isFn K (.ref fo2) = true)
    (lo2 : K.lookup fo2 = some ⟨oco2, odo2, .func (PySem.W.fnOf "worth" "Knob.worth" (defArgs s_Knob_worth) (defBody s_Knob_worth) (defScope s_Knob_worth) .none kVo2 dco2 pmo2 ano2 cdo2 cto2), slo2⟩) (eo2 : PySem.W.codeIn K cdo2 "Knob.worth" = true) (ko2 : PySem.W.keepIn K (.ref fo2) = true)
    {fo3 : Addr} {odo3 ano3 : Option Addr} {slo3 : Array (Option Value)} {oco3 kVo3 dco3 pmo3 cdo3 cto3 : Value} (ao3 : PySem.W.findIn K (.ref C_Knob) "__init__" = some (some (.ref fo3))) (io3 : PySem.W.isFn K (.ref fo3) = true)
    (mkm : PySem.W.makesIn K C_Knob = true) (mkk : PySem.W.keepIn K (.ref C_Knob) = true)
    (lo3 : K.lookup fo3 = some ⟨oco3, odo3, .func (PySem.W.fnOf "__init__" "Knob.__init__" (defArgs s_Knob___init__) (defBody s_Knob___init__) (defScope s_Knob___init__) .none kVo3 dco3 pmo3 ano3 cdo3 cto3), slo3⟩) (eo3 : PySem.W.codeIn K cdo3 "Knob.__init__" = true) (ko3 : PySem.W.keepIn K (.ref fo3) = true)
    {fo4 : Addr} {odo4 ano4 : Option Addr} {slo4 : Array (Option Value)} {oco4 kVo4 dco4 pmo4 cdo4 cto4 : Value} (ao4 : PySem.W.findIn K (.ref C_Knob) "turn" = some (some (.ref fo4))) (io4 : PySem.W.isFn K (.ref fo4) = true)
    (lo4 : K.lookup fo4 = some ⟨oco4, odo4, .func (PySem.W.fnOf "turn" "Knob.turn" (defArgs s_Knob_turn) (defBody s_Knob_turn) (defScope s_Knob_turn) .none kVo4 dco4 pmo4 ano4 cdo4 cto4), slo4⟩) (eo4 : PySem.W.codeIn K cdo4 "Knob.turn" = true) (ko4 : PySem.W.keepIn K (.ref fo4) = true)
    {fo5 : Addr} {odo5 ano5 : Option Addr} {slo5 : Array (Option Value)} {oco5 kVo5 dco5 pmo5 cdo5 cto5 : Value} (ao5 : PySem.W.nsIn K mainGlobals "law" = some (some (.ref fo5)))
    (lo5 : K.lookup fo5 = some ⟨oco5, odo5, .func (PySem.W.fnOf "law" "law" (defArgs s_law) (defBody s_law) (defScope s_law) .none kVo5 dco5 pmo5 ano5 cdo5 cto5), slo5⟩) (eo5 : PySem.W.codeIn K cdo5 "law" = true) (ko5 : PySem.W.keepIn K (.ref fo5) = true)
    (z_abs : PySem.W.nsIn K mainGlobals "abs" = some none)
    (z_all : PySem.W.nsIn K mainGlobals "all" = some none)
    (z_bool : PySem.W.nsIn K mainGlobals "bool" = some none)
    (z_int : PySem.W.nsIn K mainGlobals "int" = some none)
    (z_isinstance : PySem.W.nsIn K mainGlobals "isinstance" = some none)
    (z_len : PySem.W.nsIn K mainGlobals "len" = some none)
    (z_list : PySem.W.nsIn K mainGlobals "list" = some none)
    (z_max : PySem.W.nsIn K mainGlobals "max" = some none)
    (z_min : PySem.W.nsIn K mainGlobals "min" = some none)
    (z_range : PySem.W.nsIn K mainGlobals "range" = some none)
    (z_sum : PySem.W.nsIn K mainGlobals "sum" = some none)
    (z_tuple : PySem.W.nsIn K mainGlobals "tuple" = some none)
    (z_zip : PySem.W.nsIn K mainGlobals "zip" = some none)
    {p_ROUND : Addr} {n_ROUND : Nat} {t_ROUND0 t_ROUND1 t_ROUND2 t_ROUND3 : Tok} {q_ROUND : Array (Option Value)} (c_ROUND : PySem.W.nsIn K mainGlobals "ROUND" = some (some (.ref p_ROUND))) (h_ROUND : K.lookup p_ROUND = some ⟨.type "tuple", none, .seq #[.int 0 t_ROUND0, .int 1 t_ROUND1, .int 3 t_ROUND2, .int 2 t_ROUND3] n_ROUND, q_ROUND⟩)
    {t_LONGEST : Tok} (c_LONGEST : PySem.W.nsIn K mainGlobals "LONGEST" = some (some (.int 40 t_LONGEST)))
    {t_MOST_PLAY : Tok} (c_MOST_PLAY : PySem.W.nsIn K mainGlobals "MOST_PLAY" = some (some (.int 9 t_MOST_PLAY)))
    {t_MOST_MOVES : Tok} (c_MOST_MOVES : PySem.W.nsIn K mainGlobals "MOST_MOVES" = some (some (.int 40 t_MOST_MOVES)))
    {t_FARTHEST : Tok} (c_FARTHEST : PySem.W.nsIn K mainGlobals "FARTHEST" = some (some (.int 99 t_FARTHEST)))
    {t_FAR : Tok} (c_FAR : PySem.W.nsIn K mainGlobals "FAR" = some (some (.int 999 t_FAR)))
    : Txt K mg :=
  { a__law_cell := f0, d__law_cell := _, F__law_cell := fun_mk (st := s__law_cell) l0 e0 k0, g__law_cell := PySem.W.mg_of X Gg a0, b__law_cell := (fun_mk (st := s__law_cell) l0 e0 k0).binds (ps := ["script", "k"]) fun _ _ _ _ _ _ us hl => match us, hl with | [_, _], _ => rfl,
    a__law_pick := f1, d__law_pick := _, F__law_pick := fun_mk (st := s__law_pick) l1 e1 k1, g__law_pick := PySem.W.mg_of X Gg a1, b__law_pick := (fun_mk (st := s__law_pick) l1 e1 k1).binds (ps := ["script", "k", "many"]) fun _ _ _ _ _ _ us hl => match us, hl with | [_, _, _], _ => rfl,
    a_is_whole := f2, d_is_whole := _, F_is_whole := fun_mk (st := s_is_whole) l2 e2 k2, g_is_whole := PySem.W.mg_of X Gg a2, b_is_whole := (fun_mk (st := s_is_whole) l2 e2 k2).binds (ps := ["thing", "low", "high"]) fun _ _ _ _ _ _ us hl => match us, hl with | [_, _, _], _ => rfl,
    a_look_moves := f3, d_look_moves := _, F_look_moves := fun_mk (st := s_look_moves) l3 e3 k3, g_look_moves := PySem.W.mg_of X Gg a3, b_look_moves := (fun_mk (st := s_look_moves) l3 e3 k3).binds (ps := ["moves", "play"]) fun _ _ _ _ _ _ us hl => match us, hl with | [_, _], _ => rfl,
    a_go_along := f4, d_go_along := _, F_go_along := fun_mk (st := s_go_along) l4 e4 k4, g_go_along := PySem.W.mg_of X Gg a4, b_go_along := (fun_mk (st := s_go_along) l4 e4 k4).binds (ps := ["moves", "play", "begin"]) fun _ _ _ _ _ _ us hl => match us, hl with | [_, _, _], _ => rfl,
    a_followed := f5, d_followed := _, F_followed := fun_mk (st := s_followed) l5 e5 k5, g_followed := PySem.W.mg_of X Gg a5, b_followed := (fun_mk (st := s_followed) l5 e5 k5).binds (ps := ["moves", "play", "begin"]) fun _ _ _ _ _ _ us hl => match us, hl with | [_, _, _], _ => rfl,
    a_is_sample := f6, d_is_sample := _, F_is_sample := fun_mk (st := s_is_sample) l6 e6 k6, g_is_sample := PySem.W.mg_of X Gg a6, b_is_sample := (fun_mk (st := s_is_sample) l6 e6 k6).binds (ps := ["thing"]) fun _ _ _ _ _ _ us hl => match us, hl with | [_], _ => rfl,
    a_is_any_whole := f7, d_is_any_whole := _, F_is_any_whole := fun_mk (st := s_is_any_whole) l7 e7 k7, g_is_any_whole := PySem.W.mg_of X Gg a7, b_is_any_whole := (fun_mk (st := s_is_any_whole) l7 e7 k7).binds (ps := ["thing"]) fun _ _ _ _ _ _ us hl => match us, hl with | [_], _ => rfl,
    a_made_by := f8, d_made_by := _, F_made_by := fun_mk (st := s_made_by) l8 e8 k8, g_made_by := PySem.W.mg_of X Gg a8, b_made_by := (fun_mk (st := s_made_by) l8 e8 k8).binds (ps := ["sample", "steps"]) fun _ _ _ _ _ _ us hl => match us, hl with | [_, _], _ => rfl,
    a_is_row := f9, d_is_row := _, F_is_row := fun_mk (st := s_is_row) l9 e9 k9, g_is_row := PySem.W.mg_of X Gg a9, b_is_row := (fun_mk (st := s_is_row) l9 e9 k9).binds (ps := ["thing"]) fun _ _ _ _ _ _ us hl => match us, hl with | [_], _ => rfl,
    a_look_row := f10, d_look_row := _, F_look_row := fun_mk (st := s_look_row) l10 e10 k10, g_look_row := PySem.W.mg_of X Gg a10, b_look_row := (fun_mk (st := s_look_row) l10 e10 k10).binds (ps := ["row"]) fun _ _ _ _ _ _ us hl => match us, hl with | [_], _ => rfl,
    a_far_on := f11, d_far_on := _, F_far_on := fun_mk (st := s_far_on) l11 e11 k11, g_far_on := PySem.W.mg_of X Gg a11, b_far_on := (fun_mk (st := s_far_on) l11 e11 k11).binds (ps := ["one", "other"]) fun _ _ _ _ _ _ us hl => match us, hl with | [_, _], _ => rfl,
    a_step_between := f12, d_step_between := _, F_step_between := fun_mk (st := s_step_between) l12 e12 k12, g_step_between := PySem.W.mg_of X Gg a12, b_step_between := (fun_mk (st := s_step_between) l12 e12 k12).binds (ps := ["one", "other"]) fun _ _ _ _ _ _ us hl => match us, hl with | [_, _], _ => rfl,
    a_plain_count := f13, d_plain_count := _, F_plain_count := fun_mk (st := s_plain_count) l13 e13 k13, g_plain_count := PySem.W.mg_of X Gg a13, b_plain_count := (fun_mk (st := s_plain_count) l13 e13 k13).binds (ps := ["row"]) fun _ _ _ _ _ _ us hl => match us, hl with | [_], _ => rfl,
    a_lost_moves := f14, d_lost_moves := _, F_lost_moves := fun_mk (st := s_lost_moves) l14 e14 k14, g_lost_moves := PySem.W.mg_of X Gg a14, b_lost_moves := (fun_mk (st := s_lost_moves) l14 e14 k14).binds (ps := ["moves", "play", "begin"]) fun _ _ _ _ _ _ us hl => match us, hl with | [_, _, _], _ => rfl,
    C_Knob := C_Knob, g_Knob := PySem.W.mg_of X Gg c_Knob, cl := ⟨cp, ch, co, ca⟩,
    nf_own := nf_own,
    nf_now := nf_now,
    nf_past := nf_past,
    nf_later := nf_later,
    h_Knob_go := ⟨ao0, io0, ko0⟩,
    a_Knob_go := fo0, d_Knob_go := _, F_Knob_go := fun_mk (st := s_Knob_go) lo0 eo0 ko0, b_Knob_go := (fun_mk (st := s_Knob_go) lo0 eo0 ko0).binds (ps := ["self", "word", "state"]) fun _ _ _ _ _ _ us hl => match us, hl with | [_, _, _], _ => rfl,
    h_Knob_lay := ⟨ao1, io1, ko1⟩,
    a_Knob_lay := fo1, d_Knob_lay := _, F_Knob_lay := fun_mk (st := s_Knob_lay) lo1 eo1 ko1, b_Knob_lay := (fun_mk (st := s_Knob_lay) lo1 eo1 ko1).binds (ps := ["self", "number"]) fun _ _ _ _ _ _ us hl => match us, hl with | [_, _], _ => rfl,
    h_Knob_worth := ⟨ao2, io2, ko2⟩,
    a_Knob_worth := fo2, d_Knob_worth := _, F_Knob_worth := fun_mk (st := s_Knob_worth) lo2 eo2 ko2, b_Knob_worth := (fun_mk (st := s_Knob_worth) lo2 eo2 ko2).binds (ps := ["self"]) fun _ _ _ _ _ _ us hl => match us, hl with | [_], _ => rfl,
    h_Knob___init__ := ⟨ao3, io3, ko3⟩,
    mkC := ⟨mkm, ao3, io3, mkk⟩,
    a_Knob___init__ := fo3, d_Knob___init__ := _, F_Knob___init__ := fun_mk (st := s_Knob___init__) lo3 eo3 ko3, b_Knob___init__ := (fun_mk (st := s_Knob___init__) lo3 eo3 ko3).binds (ps := ["self", "low", "high", "every"]) fun _ _ _ _ _ _ us hl => match us, hl with | [_, _, _, _], _ => rfl,
    h_Knob_turn := ⟨ao4, io4, ko4⟩,
    a_Knob_turn := fo4, d_Knob_turn := _, F_Knob_turn := fun_mk (st := s_Knob_turn) lo4 eo4 ko4, b_Knob_turn := (fun_mk (st := s_Knob_turn) lo4 eo4 ko4).binds (ps := ["self", "sample"]) fun _ _ _ _ _ _ us hl => match us, hl with | [_, _], _ => rfl,
    g_law := PySem.W.mg_of X Gg ao5,
    a_law := fo5, d_law := _, F_law := fun_mk (st := s_law) lo5 eo5 ko5, b_law := (fun_mk (st := s_law) lo5 eo5 ko5).binds (ps := ["script"]) fun _ _ _ _ _ _ us hl => match us, hl with | [_], _ => rfl,
    z_abs := PySem.W.mg_none_of X Gg z_abs,
    z_all := PySem.W.mg_none_of X Gg z_all,
    z_bool := PySem.W.mg_none_of X Gg z_bool,
    z_int := PySem.W.mg_none_of X Gg z_int,
    z_isinstance := PySem.W.mg_none_of X Gg z_isinstance,
    z_len := PySem.W.mg_none_of X Gg z_len,
    z_list := PySem.W.mg_none_of X Gg z_list,
    z_max := PySem.W.mg_none_of X Gg z_max,
    z_min := PySem.W.mg_none_of X Gg z_min,
    z_range := PySem.W.mg_none_of X Gg z_range,
    z_sum := PySem.W.mg_none_of X Gg z_sum,
    z_tuple := PySem.W.mg_none_of X Gg z_tuple,
    z_zip := PySem.W.mg_none_of X Gg z_zip,
    c_ROUND := ⟨⟨p_ROUND, _, _, _, PySem.W.mg_of X Gg c_ROUND, h_ROUND, rfl, rfl, rfl, (show (4 : Nat) ≤ sizeLine by decide), (.cons ⟨_, rfl⟩ (.cons ⟨_, rfl⟩ (.cons ⟨_, rfl⟩ (.cons ⟨_, rfl⟩ .nil))))⟩⟩,
    t_LONGEST := t_LONGEST, c_LONGEST := PySem.W.mg_of X Gg c_LONGEST,
    t_MOST_PLAY := t_MOST_PLAY, c_MOST_PLAY := PySem.W.mg_of X Gg c_MOST_PLAY,
    t_MOST_MOVES := t_MOST_MOVES, c_MOST_MOVES := PySem.W.mg_of X Gg c_MOST_MOVES,
    t_FARTHEST := t_FARTHEST, c_FARTHEST := PySem.W.mg_of X Gg c_FARTHEST,
    t_FAR := t_FAR, c_FAR := PySem.W.mg_of X Gg c_FAR }
theorem all_mk {l : PySem.W.OpenLaw} {w : World} {K : PySem.W.Frag} {h : Heap} {mg : Str → Option Value} {fa : Addr} (X : K.In h) (Gg : h.Ns mainGlobals mg) (hfa : mg "law" = some (.ref fa))
    {f0 : Addr} {od0 an0 : Option Addr} {sl0 : Array (Option Value)} {oc0 kV0 dc0 pm0 cd0 ct0 : Value}
    (a0 : PySem.W.nsIn K mainGlobals "_law_cell" = some (some (.ref f0))) (l0 : K.lookup f0 = some ⟨oc0, od0, .func (PySem.W.fnOf "_law_cell" "_law_cell" (defArgs s__law_cell) (defBody s__law_cell) (defScope s__law_cell) .none kV0 dc0 pm0 an0 cd0 ct0), sl0⟩) (e0 : PySem.W.codeIn K cd0 "_law_cell" = true) (k0 : PySem.W.keepIn K (.ref f0) = true)
    {f1 : Addr} {od1 an1 : Option Addr} {sl1 : Array (Option Value)} {oc1 kV1 dc1 pm1 cd1 ct1 : Value}
    (a1 : PySem.W.nsIn K mainGlobals "_law_pick" = some (some (.ref f1))) (l1 : K.lookup f1 = some ⟨oc1, od1, .func (PySem.W.fnOf "_law_pick" "_law_pick" (defArgs s__law_pick) (defBody s__law_pick) (defScope s__law_pick) .none kV1 dc1 pm1 an1 cd1 ct1), sl1⟩) (e1 : PySem.W.codeIn K cd1 "_law_pick" = true) (k1 : PySem.W.keepIn K (.ref f1) = true)
    {f2 : Addr} {od2 an2 : Option Addr} {sl2 : Array (Option Value)} {oc2 kV2 dc2 pm2 cd2 ct2 : Value}
    (a2 : PySem.W.nsIn K mainGlobals "is_whole" = some (some (.ref f2))) (l2 : K.lookup f2 = some ⟨oc2, od2, .func (PySem.W.fnOf "is_whole" "is_whole" (defArgs s_is_whole) (defBody s_is_whole) (defScope s_is_whole) .none kV2 dc2 pm2 an2 cd2 ct2), sl2⟩) (e2 : PySem.W.codeIn K cd2 "is_whole" = true) (k2 : PySem.W.keepIn K (.ref f2) = true)
    {f3 : Addr} {od3 an3 : Option Addr} {sl3 : Array (Option Value)} {oc3 kV3 dc3 pm3 cd3 ct3 : Value}
    (a3 : PySem.W.nsIn K mainGlobals "look_moves" = some (some (.ref f3))) (l3 : K.lookup f3 = some ⟨oc3, od3, .func (PySem.W.fnOf "look_moves" "look_moves" (defArgs s_look_moves) (defBody s_look_moves) (defScope s_look_moves) .none kV3 dc3 pm3 an3 cd3 ct3), sl3⟩) (e3 : PySem.W.codeIn K cd3 "look_moves" = true) (k3 : PySem.W.keepIn K (.ref f3) = true)
    {f4 : Addr} {od4 an4 : Option Addr} {sl4 : Array (Option Value)} {oc4 kV4 dc4 pm4 cd4 ct4 : Value}
    (a4 : PySem.W.nsIn K mainGlobals "go_along" = some (some (.ref f4))) (l4 : K.lookup f4 = some ⟨oc4, od4, .func (PySem.W.fnOf "go_along" "go_along" (defArgs s_go_along) (defBody s_go_along) (defScope s_go_along) .none kV4 dc4 pm4 an4 cd4 ct4), sl4⟩) (e4 : PySem.W.codeIn K cd4 "go_along" = true) (k4 : PySem.W.keepIn K (.ref f4) = true)
    {f5 : Addr} {od5 an5 : Option Addr} {sl5 : Array (Option Value)} {oc5 kV5 dc5 pm5 cd5 ct5 : Value}
    (a5 : PySem.W.nsIn K mainGlobals "followed" = some (some (.ref f5))) (l5 : K.lookup f5 = some ⟨oc5, od5, .func (PySem.W.fnOf "followed" "followed" (defArgs s_followed) (defBody s_followed) (defScope s_followed) .none kV5 dc5 pm5 an5 cd5 ct5), sl5⟩) (e5 : PySem.W.codeIn K cd5 "followed" = true) (k5 : PySem.W.keepIn K (.ref f5) = true)
    {f6 : Addr} {od6 an6 : Option Addr} {sl6 : Array (Option Value)} {oc6 kV6 dc6 pm6 cd6 ct6 : Value}
    (a6 : PySem.W.nsIn K mainGlobals "is_sample" = some (some (.ref f6))) (l6 : K.lookup f6 = some ⟨oc6, od6, .func (PySem.W.fnOf "is_sample" "is_sample" (defArgs s_is_sample) (defBody s_is_sample) (defScope s_is_sample) .none kV6 dc6 pm6 an6 cd6 ct6), sl6⟩) (e6 : PySem.W.codeIn K cd6 "is_sample" = true) (k6 : PySem.W.keepIn K (.ref f6) = true)
    {f7 : Addr} {od7 an7 : Option Addr} {sl7 : Array (Option Value)} {oc7 kV7 dc7 pm7 cd7 ct7 : Value}
    (a7 : PySem.W.nsIn K mainGlobals "is_any_whole" = some (some (.ref f7))) (l7 : K.lookup f7 = some ⟨oc7, od7, .func (PySem.W.fnOf "is_any_whole" "is_any_whole" (defArgs s_is_any_whole) (defBody s_is_any_whole) (defScope s_is_any_whole) .none kV7 dc7 pm7 an7 cd7 ct7), sl7⟩) (e7 : PySem.W.codeIn K cd7 "is_any_whole" = true) (k7 : PySem.W.keepIn K (.ref f7) = true)
    {f8 : Addr} {od8 an8 : Option Addr} {sl8 : Array (Option Value)} {oc8 kV8 dc8 pm8 cd8 ct8 : Value}
    (a8 : PySem.W.nsIn K mainGlobals "made_by" = some (some (.ref f8))) (l8 : K.lookup f8 = some ⟨oc8, od8, .func (PySem.W.fnOf "made_by" "made_by" (defArgs s_made_by) (defBody s_made_by) (defScope s_made_by) .none kV8 dc8 pm8 an8 cd8 ct8), sl8⟩) (e8 : PySem.W.codeIn K cd8 "made_by" = true) (k8 : PySem.W.keepIn K (.ref f8) = true)
    {f9 : Addr} {od9 an9 : Option Addr} {sl9 : Array (Option Value)} {oc9 kV9 dc9 pm9 cd9 ct9 : Value}
    (a9 : PySem.W.nsIn K mainGlobals "is_row" = some (some (.ref f9))) (l9 : K.lookup f9 = some ⟨oc9, od9, .func (PySem.W.fnOf "is_row" "is_row" (defArgs s_is_row) (defBody s_is_row) (defScope s_is_row) .none kV9 dc9 pm9 an9 cd9 ct9), sl9⟩) (e9 : PySem.W.codeIn K cd9 "is_row" = true) (k9 : PySem.W.keepIn K (.ref f9) = true)
    {f10 : Addr} {od10 an10 : Option Addr} {sl10 : Array (Option Value)} {oc10 kV10 dc10 pm10 cd10 ct10 : Value}
    (a10 : PySem.W.nsIn K mainGlobals "look_row" = some (some (.ref f10))) (l10 : K.lookup f10 = some ⟨oc10, od10, .func (PySem.W.fnOf "look_row" "look_row" (defArgs s_look_row) (defBody s_look_row) (defScope s_look_row) .none kV10 dc10 pm10 an10 cd10 ct10), sl10⟩) (e10 : PySem.W.codeIn K cd10 "look_row" = true) (k10 : PySem.W.keepIn K (.ref f10) = true)
    {f11 : Addr} {od11 an11 : Option Addr} {sl11 : Array (Option Value)} {oc11 kV11 dc11 pm11 cd11 ct11 : Value}
    (a11 : PySem.W.nsIn K mainGlobals "far_on" = some (some (.ref f11))) (l11 : K.lookup f11 = some ⟨oc11, od11, .func (PySem.W.fnOf "far_on" "far_on" (defArgs s_far_on) (defBody s_far_on) (defScope s_far_on) .none kV11 dc11 pm11 an11 cd11 ct11), sl11⟩) (e11 : PySem.W.codeIn K cd11 "far_on" = true) (k11 : PySem.W.keepIn K (.ref f11) = true)
    {f12 : Addr} {od12 an12 : Option Addr} {sl12 : Array (Option Value)} {oc12 kV12 dc12 pm12 cd12 ct12 : Value}
    (a12 : PySem.W.nsIn K mainGlobals "step_between" = some (some (.ref f12))) (l12 : K.lookup f12 = some ⟨oc12, od12, .func (PySem.W.fnOf "step_between" "step_between" (defArgs s_step_between) (defBody s_step_between) (defScope s_step_between) .none kV12 dc12 pm12 an12 cd12 ct12), sl12⟩) (e12 : PySem.W.codeIn K cd12 "step_between" = true) (k12 : PySem.W.keepIn K (.ref f12) = true)
    {f13 : Addr} {od13 an13 : Option Addr} {sl13 : Array (Option Value)} {oc13 kV13 dc13 pm13 cd13 ct13 : Value}
    (a13 : PySem.W.nsIn K mainGlobals "plain_count" = some (some (.ref f13))) (l13 : K.lookup f13 = some ⟨oc13, od13, .func (PySem.W.fnOf "plain_count" "plain_count" (defArgs s_plain_count) (defBody s_plain_count) (defScope s_plain_count) .none kV13 dc13 pm13 an13 cd13 ct13), sl13⟩) (e13 : PySem.W.codeIn K cd13 "plain_count" = true) (k13 : PySem.W.keepIn K (.ref f13) = true)
    {f14 : Addr} {od14 an14 : Option Addr} {sl14 : Array (Option Value)} {oc14 kV14 dc14 pm14 cd14 ct14 : Value}
    (a14 : PySem.W.nsIn K mainGlobals "lost_moves" = some (some (.ref f14))) (l14 : K.lookup f14 = some ⟨oc14, od14, .func (PySem.W.fnOf "lost_moves" "lost_moves" (defArgs s_lost_moves) (defBody s_lost_moves) (defScope s_lost_moves) .none kV14 dc14 pm14 an14 cd14 ct14), sl14⟩) (e14 : PySem.W.codeIn K cd14 "lost_moves" = true) (k14 : PySem.W.keepIn K (.ref f14) = true)
    {C_Knob : Addr} (c_Knob : PySem.W.nsIn K mainGlobals "Knob" = some (some (.ref C_Knob))) (cp : PySem.W.plainGet K C_Knob Str.empty = true) (ch : PySem.W.hasDictIn K C_Knob = true) (co : PySem.W.plainOver K C_Knob = true) (ca : PySem.W.findIn K (.ref C_Knob) "__setattr__" = some (some (.builtin "object.__setattr__")))
    (nf_own : PySem.W.findIn K (.ref C_Knob) "own" = some none)
    (nf_now : PySem.W.findIn K (.ref C_Knob) "now" = some none)
    (nf_past : PySem.W.findIn K (.ref C_Knob) "past" = some none)
    (nf_later : PySem.W.findIn K (.ref C_Knob) "later" = some none)
    {fo0 : Addr} {odo0 ano0 : Option Addr} {slo0 : Array (Option Value)} {oco0 kVo0 dco0 pmo0 cdo0 cto0 : Value} (ao0 : PySem.W.findIn K (.ref C_Knob) "go" = some (some (.ref fo0))) (io0 : PySem.W.isFn K (.ref fo0) = true)
    (lo0 : K.lookup fo0 = some ⟨oco0, odo0, .func (PySem.W.fnOf "go" "Knob.go" (defArgs s_Knob_go) (defBody s_Knob_go) (defScope s_Knob_go) .none kVo0 dco0 pmo0 ano0 cdo0 cto0), slo0⟩) (eo0 : PySem.W.codeIn K cdo0 "Knob.go" = true) (ko0 : PySem.W.keepIn K (.ref fo0) = true)
    {fo1 : Addr} {odo1 ano1 : Option Addr} {slo1 : Array (Option Value)} {oco1 kVo1 dco1 pmo1 cdo1 cto1 : Value} (ao1 : PySem.W.findIn K (.ref C_Knob) "lay" = some (some (.ref fo1))) (io1 : PySem.W.isFn K (.ref fo1) = true)
    (lo1 : K.lookup fo1 = some ⟨oco1, odo1, .func (PySem.W.fnOf "lay" "Knob.lay" (defArgs s_Knob_lay) (defBody s_Knob_lay) (defScope s_Knob_lay) .none kVo1 dco1 pmo1 ano1 cdo1 cto1), slo1⟩) (eo1 : PySem.W.codeIn K cdo1 "Knob.lay" = true) (ko1 : PySem.W.keepIn K (.ref fo1) = true)
    {fo2 : Addr} {odo2 ano2 : Option Addr} {slo2 : Array (Option Value)} {oco2 kVo2 dco2 pmo2 cdo2 cto2 : Value} (ao2 : PySem.W.findIn K (.ref C_Knob) "worth" = some (some (.ref fo2))) (io2 : PySem.W.isFn K (.ref fo2) = true)
    (lo2 : K.lookup fo2 = some ⟨oco2, odo2, .func (PySem.W.fnOf "worth" "Knob.worth" (defArgs s_Knob_worth) (defBody s_Knob_worth) (defScope s_Knob_worth) .none kVo2 dco2 pmo2 ano2 cdo2 cto2), slo2⟩) (eo2 : PySem.W.codeIn K cdo2 "Knob.worth" = true) (ko2 : PySem.W.keepIn K (.ref fo2) = true)
    {fo3 : Addr} {odo3 ano3 : Option Addr} {slo3 : Array (Option Value)} {oco3 kVo3 dco3 pmo3 cdo3 cto3 : Value} (ao3 : PySem.W.findIn K (.ref C_Knob) "__init__" = some (some (.ref fo3))) (io3 : PySem.W.isFn K (.ref fo3) = true)
    (mkm : PySem.W.makesIn K C_Knob = true) (mkk : PySem.W.keepIn K (.ref C_Knob) = true)
    (lo3 : K.lookup fo3 = some ⟨oco3, odo3, .func (PySem.W.fnOf "__init__" "Knob.__init__" (defArgs s_Knob___init__) (defBody s_Knob___init__) (defScope s_Knob___init__) .none kVo3 dco3 pmo3 ano3 cdo3 cto3), slo3⟩) (eo3 : PySem.W.codeIn K cdo3 "Knob.__init__" = true) (ko3 : PySem.W.keepIn K (.ref fo3) = true)
    {fo4 : Addr} {odo4 ano4 : Option Addr} {slo4 : Array (Option Value)} {oco4 kVo4 dco4 pmo4 cdo4 cto4 : Value} (ao4 : PySem.W.findIn K (.ref C_Knob) "turn" = some (some (.ref fo4))) (io4 : PySem.W.isFn K (.ref fo4) = true)
    (lo4 : K.lookup fo4 = some ⟨oco4, odo4, .func (PySem.W.fnOf "turn" "Knob.turn" (defArgs s_Knob_turn) (defBody s_Knob_turn) (defScope s_Knob_turn) .none kVo4 dco4 pmo4 ano4 cdo4 cto4), slo4⟩) (eo4 : PySem.W.codeIn K cdo4 "Knob.turn" = true) (ko4 : PySem.W.keepIn K (.ref fo4) = true)
    {fo5 : Addr} {odo5 ano5 : Option Addr} {slo5 : Array (Option Value)} {oco5 kVo5 dco5 pmo5 cdo5 cto5 : Value} (ao5 : PySem.W.nsIn K mainGlobals "law" = some (some (.ref fo5)))
    (lo5 : K.lookup fo5 = some ⟨oco5, odo5, .func (PySem.W.fnOf "law" "law" (defArgs s_law) (defBody s_law) (defScope s_law) .none kVo5 dco5 pmo5 ano5 cdo5 cto5), slo5⟩) (eo5 : PySem.W.codeIn K cdo5 "law" = true) (ko5 : PySem.W.keepIn K (.ref fo5) = true)
    (z_abs : PySem.W.nsIn K mainGlobals "abs" = some none)
    (z_all : PySem.W.nsIn K mainGlobals "all" = some none)
    (z_bool : PySem.W.nsIn K mainGlobals "bool" = some none)
    (z_int : PySem.W.nsIn K mainGlobals "int" = some none)
    (z_isinstance : PySem.W.nsIn K mainGlobals "isinstance" = some none)
    (z_len : PySem.W.nsIn K mainGlobals "len" = some none)
    (z_list : PySem.W.nsIn K mainGlobals "list" = some none)
    (z_max : PySem.W.nsIn K mainGlobals "max" = some none)
    (z_min : PySem.W.nsIn K mainGlobals "min" = some none)
    (z_range : PySem.W.nsIn K mainGlobals "range" = some none)
    (z_sum : PySem.W.nsIn K mainGlobals "sum" = some none)
    (z_tuple : PySem.W.nsIn K mainGlobals "tuple" = some none)
    (z_zip : PySem.W.nsIn K mainGlobals "zip" = some none)
    {p_ROUND : Addr} {n_ROUND : Nat} {t_ROUND0 t_ROUND1 t_ROUND2 t_ROUND3 : Tok} {q_ROUND : Array (Option Value)} (c_ROUND : PySem.W.nsIn K mainGlobals "ROUND" = some (some (.ref p_ROUND))) (h_ROUND : K.lookup p_ROUND = some ⟨.type "tuple", none, .seq #[.int 0 t_ROUND0, .int 1 t_ROUND1, .int 3 t_ROUND2, .int 2 t_ROUND3] n_ROUND, q_ROUND⟩)
    {t_LONGEST : Tok} (c_LONGEST : PySem.W.nsIn K mainGlobals "LONGEST" = some (some (.int 40 t_LONGEST)))
    {t_MOST_PLAY : Tok} (c_MOST_PLAY : PySem.W.nsIn K mainGlobals "MOST_PLAY" = some (some (.int 9 t_MOST_PLAY)))
    {t_MOST_MOVES : Tok} (c_MOST_MOVES : PySem.W.nsIn K mainGlobals "MOST_MOVES" = some (some (.int 40 t_MOST_MOVES)))
    {t_FARTHEST : Tok} (c_FARTHEST : PySem.W.nsIn K mainGlobals "FARTHEST" = some (some (.int 99 t_FARTHEST)))
    {t_FAR : Tok} (c_FAR : PySem.W.nsIn K mainGlobals "FAR" = some (some (.int 999 t_FAR)))
    : ∃ (fd : FuncData) (C : Addr), (∀ (s : Shared) (v : Value), BindsTo s fd ⟨[v], []⟩ [("script", v)]) ∧ ∀ base : Heap, K.In base → base.Ns mainGlobals mg → ∀ ns : List Int, FnOk l.prog w K mg base CX0 6 fa fd ["script"] (spO K ns mg C (mo_law (pick ns))) := by
  have e := hfa.symm.trans (PySem.W.mg_of X Gg ao5)
  cases e
  exact ⟨_, _, fun s v => .of_eq rfl, fun base _ _ ns => oko_law (txt_mk X Gg a0 l0 e0 k0 a1 l1 e1 k1 a2 l2 e2 k2 a3 l3 e3 k3 a4 l4 e4 k4 a5 l5 e5 k5 a6 l6 e6 k6 a7 l7 e7 k7 a8 l8 e8 k8 a9 l9 e9 k9 a10 l10 e10 k10 a11 l11 e11 k11 a12 l12 e12 k12 a13 l13 e13 k13 a14 l14 e14 k14 c_Knob cp ch co ca nf_own nf_now nf_past nf_later ao0 io0 lo0 eo0 ko0 ao1 io1 lo1 eo1 ko1 ao2 io2 lo2 eo2 ko2 ao3 io3 mkm mkk lo3 eo3 ko3 ao4 io4 lo4 eo4 ko4 ao5 lo5 eo5 ko5 z_abs z_all z_bool z_int z_isinstance z_len z_list z_max z_min z_range z_sum z_tuple z_zip c_ROUND h_ROUND c_LONGEST c_MOST_PLAY c_MOST_MOVES c_FARTHEST c_FAR)⟩
/-- the law's promise: what its mirror tells of every script -/
def spLaw (K : PySem.W.Frag) : Sp := fun vs H Qk _ => ∃ (a : Addr) (ns : List Int) (ω : Om), vs = [.ref a] ∧ SqL K H a (ns.map V.int) ∧ mo_law (pick ns) [SCR] [] = .rt (.bool true) ω ∧ ∀ H', Qk (.bl true) H'
theorem law_end {Pr : Program} {w : World} {K : PySem.W.Frag} {mg : Str → Option Value} {base : Heap} {k : Nat} {f C : Addr} {fd : FuncData} (F : ∀ ns : List Int, FnOk Pr w K mg base CX0 k f fd ["script"] (spO K ns mg C (mo_law (pick ns)))) : FnOk Pr w K mg base CX0 k f fd ["script"] (spLaw K) := by
  refine ⟨fun vs H Qk E ⟨a, ns, ω, e, _⟩ => by rw [e]; rfl, fun A outer s H args us vs Qk E hr he hb hv h => ?_⟩
  obtain ⟨a, ns, ω, e, hs, hm, hq⟩ := h
  refine (F ns).run A outer s H args us vs Qk E hr he hb hv ?_
  subst e
  refine ⟨unt H, fun _ => none, [], [], [SCR], unt_sub H, .nil, .cons (.scr (scr_unt hs)) .nil, ?_⟩
  rw [hm]
  intro G' H' v ad as _ _ _ _ q
  cases q
  exact hq H'
end G
namespace G
open PySem PySem.Spec PyProof.Rows L2 M
theorem all_end {l : PySem.W.OpenLaw} {w : World} {K : PySem.W.Frag} {h : Heap} {mg : Str → Option Value} {fa : Addr} (X : K.In h) (Gg : h.Ns mainGlobals mg) (hfa : mg "law" = some (.ref fa))
    {f0 : Addr} {od0 an0 : Option Addr} {sl0 : Array (Option Value)} {oc0 kV0 dc0 pm0 cd0 ct0 : Value}
    (a0 : PySem.W.nsIn K mainGlobals "_law_cell" = some (some (.ref f0))) (l0 : K.lookup f0 = some ⟨oc0, od0, .func (PySem.W.fnOf "_law_cell" "_law_cell" (defArgs s__law_cell) (defBody s__law_cell) (defScope s__law_cell) .none kV0 dc0 pm0 an0 cd0 ct0), sl0⟩) (e0 : PySem.W.codeIn K cd0 "_law_cell" = true) (k0 : PySem.W.keepIn K (.ref f0) = true)
    {f1 : Addr} {od1 an1 : Option Addr} {sl1 : Array (Option Value)} {oc1 kV1 dc1 pm1 cd1 ct1 : Value}
    (a1 : PySem.W.nsIn K mainGlobals "_law_pick" = some (some (.ref f1))) (l1 : K.lookup f1 = some ⟨oc1, od1, .func (PySem.W.fnOf "_law_pick" "_law_pick" (defArgs s__law_pick) (defBody s__law_pick) (defScope s__law_pick) .none kV1 dc1 pm1 an1 cd1 ct1), sl1⟩) (e1 : PySem.W.codeIn K cd1 "_law_pick" = true) (k1 : PySem.W.keepIn K (.ref f1) = true)
    {f2 : Addr} {od2 an2 : Option Addr} {sl2 : Array (Option Value)} {oc2 kV2 dc2 pm2 cd2 ct2 : Value}
    (a2 : PySem.W.nsIn K mainGlobals "is_whole" = some (some (.ref f2))) (l2 : K.lookup f2 = some ⟨oc2, od2, .func (PySem.W.fnOf "is_whole" "is_whole" (defArgs s_is_whole) (defBody s_is_whole) (defScope s_is_whole) .none kV2 dc2 pm2 an2 cd2 ct2), sl2⟩) (e2 : PySem.W.codeIn K cd2 "is_whole" = true) (k2 : PySem.W.keepIn K (.ref f2) = true)
    {f3 : Addr} {od3 an3 : Option Addr} {sl3 : Array (Option Value)} {oc3 kV3 dc3 pm3 cd3 ct3 : Value}
    (a3 : PySem.W.nsIn K mainGlobals "look_moves" = some (some (.ref f3))) (l3 : K.lookup f3 = some ⟨oc3, od3, .func (PySem.W.fnOf "look_moves" "look_moves" (defArgs s_look_moves) (defBody s_look_moves) (defScope s_look_moves) .none kV3 dc3 pm3 an3 cd3 ct3), sl3⟩) (e3 : PySem.W.codeIn K cd3 "look_moves" = true) (k3 : PySem.W.keepIn K (.ref f3) = true)
    {f4 : Addr} {od4 an4 : Option Addr} {sl4 : Array (Option Value)} {oc4 kV4 dc4 pm4 cd4 ct4 : Value}
    (a4 : PySem.W.nsIn K mainGlobals "go_along" = some (some (.ref f4))) (l4 : K.lookup f4 = some ⟨oc4, od4, .func (PySem.W.fnOf "go_along" "go_along" (defArgs s_go_along) (defBody s_go_along) (defScope s_go_along) .none kV4 dc4 pm4 an4 cd4 ct4), sl4⟩) (e4 : PySem.W.codeIn K cd4 "go_along" = true) (k4 : PySem.W.keepIn K (.ref f4) = true)
    {f5 : Addr} {od5 an5 : Option Addr} {sl5 : Array (Option Value)} {oc5 kV5 dc5 pm5 cd5 ct5 : Value}
    (a5 : PySem.W.nsIn K mainGlobals "followed" = some (some (.ref f5))) (l5 : K.lookup f5 = some ⟨oc5, od5, .func (PySem.W.fnOf "followed" "followed" (defArgs s_followed) (defBody s_followed) (defScope s_followed) .none kV5 dc5 pm5 an5 cd5 ct5), sl5⟩) (e5 : PySem.W.codeIn K cd5 "followed" = true) (k5 : PySem.W.keepIn K (.ref f5) = true)
    {f6 : Addr} {od6 an6 : Option Addr} {sl6 : Array (Option Value)} {oc6 kV6 dc6 pm6 cd6 ct6 : Value}
    (a6 : PySem.W.nsIn K mainGlobals "is_sample" = some (some (.ref f6))) (l6 : K.lookup f6 = some ⟨oc6, od6, .func (PySem.W.fnOf "is_sample" "is_sample" (defArgs s_is_sample) (defBody s_is_sample) (defScope s_is_sample) .none kV6 dc6 pm6 an6 cd6 ct6), sl6⟩) (e6 : PySem.W.codeIn K cd6 "is_sample" = true) (k6 : PySem.W.keepIn K (.ref f6) = true)
    {f7 : Addr} {od7 an7 : Option Addr} {sl7 : Array (Option Value)} {oc7 kV7 dc7 pm7 cd7 ct7 : Value}
    (a7 : PySem.W.nsIn K mainGlobals "is_any_whole" = some (some (.ref f7))) (l7 : K.lookup f7 = some ⟨oc7, od7, .func (PySem.W.fnOf "is_any_whole" "is_any_whole" (defArgs s_is_any_whole) (defBody s_is_any_whole) (defScope s_is_any_whole) .none kV7 dc7 pm7 an7 cd7 ct7), sl7⟩) (e7 : PySem.W.codeIn K cd7 "is_any_whole" = true) (k7 : PySem.W.keepIn K (.ref f7) = true)
    {f8 : Addr} {od8 an8 : Option Addr} {sl8 : Array (Option Value)} {oc8 kV8 dc8 pm8 cd8 ct8 : Value}
    (a8 : PySem.W.nsIn K mainGlobals "made_by" = some (some (.ref f8))) (l8 : K.lookup f8 = some ⟨oc8, od8, .func (PySem.W.fnOf "made_by" "made_by" (defArgs s_made_by) (defBody s_made_by) (defScope s_made_by) .none kV8 dc8 pm8 an8 cd8 ct8), sl8⟩) (e8 : PySem.W.codeIn K cd8 "made_by" = true) (k8 : PySem.W.keepIn K (.ref f8) = true)
    {f9 : Addr} {od9 an9 : Option Addr} {sl9 : Array (Option Value)} {oc9 kV9 dc9 pm9 cd9 ct9 : Value}
    (a9 : PySem.W.nsIn K mainGlobals "is_row" = some (some (.ref f9))) (l9 : K.lookup f9 = some ⟨oc9, od9, .func (PySem.W.fnOf "is_row" "is_row" (defArgs s_is_row) (defBody s_is_row) (defScope s_is_row) .none kV9 dc9 pm9 an9 cd9 ct9), sl9⟩) (e9 : PySem.W.codeIn K cd9 "is_row" = true) (k9 : PySem.W.keepIn K (.ref f9) = true)
    {f10 : Addr} {od10 an10 : Option Addr} {sl10 : Array (Option Value)} {oc10 kV10 dc10 pm10 cd10 ct10 : Value}
    (a10 : PySem.W.nsIn K mainGlobals "look_row" = some (some (.ref f10))) (l10 : K.lookup f10 = some ⟨oc10, od10, .func (PySem.W.fnOf "look_row" "look_row" (defArgs s_look_row) (defBody s_look_row) (defScope s_look_row) .none kV10 dc10 pm10 an10 cd10 ct10), sl10⟩) (e10 : PySem.W.codeIn K cd10 "look_row" = true) (k10 : PySem.W.keepIn K (.ref f10) = true)
    {f11 : Addr} {od11 an11 : Option Addr} {sl11 : Array (Option Value)} {oc11 kV11 dc11 pm11 cd11 ct11 : Value}
    (a11 : PySem.W.nsIn K mainGlobals "far_on" = some (some (.ref f11))) (l11 : K.lookup f11 = some ⟨oc11, od11, .func (PySem.W.fnOf "far_on" "far_on" (defArgs s_far_on) (defBody s_far_on) (defScope s_far_on) .none kV11 dc11 pm11 an11 cd11 ct11), sl11⟩) (e11 : PySem.W.codeIn K cd11 "far_on" = true) (k11 : PySem.W.keepIn K (.ref f11) = true)
    {f12 : Addr} {od12 an12 : Option Addr} {sl12 : Array (Option Value)} {oc12 kV12 dc12 pm12 cd12 ct12 : Value}
    (a12 : PySem.W.nsIn K mainGlobals "step_between" = some (some (.ref f12))) (l12 : K.lookup f12 = some ⟨oc12, od12, .func (PySem.W.fnOf "step_between" "step_between" (defArgs s_step_between) (defBody s_step_between) (defScope s_step_between) .none kV12 dc12 pm12 an12 cd12 ct12), sl12⟩) (e12 : PySem.W.codeIn K cd12 "step_between" = true) (k12 : PySem.W.keepIn K (.ref f12) = true)
    {f13 : Addr} {od13 an13 : Option Addr} {sl13 : Array (Option Value)} {oc13 kV13 dc13 pm13 cd13 ct13 : Value}
    (a13 : PySem.W.nsIn K mainGlobals "plain_count" = some (some (.ref f13))) (l13 : K.lookup f13 = some ⟨oc13, od13, .func (PySem.W.fnOf "plain_count" "plain_count" (defArgs s_plain_count) (defBody s_plain_count) (defScope s_plain_count) .none kV13 dc13 pm13 an13 cd13 ct13), sl13⟩) (e13 : PySem.W.codeIn K cd13 "plain_count" = true) (k13 : PySem.W.keepIn K (.ref f13) = true)
    {f14 : Addr} {od14 an14 : Option Addr} {sl14 : Array (Option Value)} {oc14 kV14 dc14 pm14 cd14 ct14 : Value}
    (a14 : PySem.W.nsIn K mainGlobals "lost_moves" = some (some (.ref f14))) (l14 : K.lookup f14 = some ⟨oc14, od14, .func (PySem.W.fnOf "lost_moves" "lost_moves" (defArgs s_lost_moves) (defBody s_lost_moves) (defScope s_lost_moves) .none kV14 dc14 pm14 an14 cd14 ct14), sl14⟩) (e14 : PySem.W.codeIn K cd14 "lost_moves" = true) (k14 : PySem.W.keepIn K (.ref f14) = true)
    {C_Knob : Addr} (c_Knob : PySem.W.nsIn K mainGlobals "Knob" = some (some (.ref C_Knob))) (cp : PySem.W.plainGet K C_Knob Str.empty = true) (ch : PySem.W.hasDictIn K C_Knob = true) (co : PySem.W.plainOver K C_Knob = true) (ca : PySem.W.findIn K (.ref C_Knob) "__setattr__" = some (some (.builtin "object.__setattr__")))
    (nf_own : PySem.W.findIn K (.ref C_Knob) "own" = some none)
    (nf_now : PySem.W.findIn K (.ref C_Knob) "now" = some none)
    (nf_past : PySem.W.findIn K (.ref C_Knob) "past" = some none)
    (nf_later : PySem.W.findIn K (.ref C_Knob) "later" = some none)
    {fo0 : Addr} {odo0 ano0 : Option Addr} {slo0 : Array (Option Value)} {oco0 kVo0 dco0 pmo0 cdo0 cto0 : Value} (ao0 : PySem.W.findIn K (.ref C_Knob) "go" = some (some (.ref fo0))) (io0 : PySem.W.isFn K (.ref fo0) = true)
    (lo0 : K.lookup fo0 = some ⟨oco0, odo0, .func (PySem.W.fnOf "go" "Knob.go" (defArgs s_Knob_go) (defBody s_Knob_go) (defScope s_Knob_go) .none kVo0 dco0 pmo0 ano0 cdo0 cto0), slo0⟩) (eo0 : PySem.W.codeIn K cdo0 "Knob.go" = true) (ko0 : PySem.W.keepIn K (.ref fo0) = true)
    {fo1 : Addr} {odo1 ano1 : Option Addr} {slo1 : Array (Option Value)} {oco1 kVo1 dco1 pmo1 cdo1 cto1 : Value} (ao1 : PySem.W.findIn K (.ref C_Knob) "lay" = some (some (.ref fo1))) (io1 : PySem.W.isFn K (.ref fo1) = true)
    (lo1 : K.lookup fo1 = some ⟨oco1, odo1, .func (PySem.W.fnOf "lay" "Knob.lay" (defArgs s_Knob_lay) (defBody s_Knob_lay) (defScope s_Knob_lay) .none kVo1 dco1 pmo1 ano1 cdo1 cto1), slo1⟩) (eo1 : PySem.W.codeIn K cdo1 "Knob.lay" = true) (ko1 : PySem.W.keepIn K (.ref fo1) = true)
    {fo2 : Addr} {odo2 ano2 : Option Addr} {slo2 : Array (Option Value)} {oco2 kVo2 dco2 pmo2 cdo2 cto2 : Value} (ao2 : PySem.W.findIn K (.ref C_Knob) "worth" = some (some (.ref fo2))) (io2 : PySem.W.isFn K (.ref fo2) = true)
    (lo2 : K.lookup fo2 = some ⟨oco2, odo2, .func (PySem.W.fnOf "worth" "Knob.worth" (defArgs s_Knob_worth) (defBody s_Knob_worth) (defScope s_Knob_worth) .none kVo2 dco2 pmo2 ano2 cdo2 cto2), slo2⟩) (eo2 : PySem.W.codeIn K cdo2 "Knob.worth" = true) (ko2 : PySem.W.keepIn K (.ref fo2) = true)
    {fo3 : Addr} {odo3 ano3 : Option Addr} {slo3 : Array (Option Value)} {oco3 kVo3 dco3 pmo3 cdo3 cto3 : Value} (ao3 : PySem.W.findIn K (.ref C_Knob) "__init__" = some (some (.ref fo3))) (io3 : PySem.W.isFn K (.ref fo3) = true)
    (mkm : PySem.W.makesIn K C_Knob = true) (mkk : PySem.W.keepIn K (.ref C_Knob) = true)
    (lo3 : K.lookup fo3 = some ⟨oco3, odo3, .func (PySem.W.fnOf "__init__" "Knob.__init__" (defArgs s_Knob___init__) (defBody s_Knob___init__) (defScope s_Knob___init__) .none kVo3 dco3 pmo3 ano3 cdo3 cto3), slo3⟩) (eo3 : PySem.W.codeIn K cdo3 "Knob.__init__" = true) (ko3 : PySem.W.keepIn K (.ref fo3) = true)
    {fo4 : Addr} {odo4 ano4 : Option Addr} {slo4 : Array (Option Value)} {oco4 kVo4 dco4 pmo4 cdo4 cto4 : Value} (ao4 : PySem.W.findIn K (.ref C_Knob) "turn" = some (some (.ref fo4))) (io4 : PySem.W.isFn K (.ref fo4) = true)
    (lo4 : K.lookup fo4 = some ⟨oco4, odo4, .func (PySem.W.fnOf "turn" "Knob.turn" (defArgs s_Knob_turn) (defBody s_Knob_turn) (defScope s_Knob_turn) .none kVo4 dco4 pmo4 ano4 cdo4 cto4), slo4⟩) (eo4 : PySem.W.codeIn K cdo4 "Knob.turn" = true) (ko4 : PySem.W.keepIn K (.ref fo4) = true)
    {fo5 : Addr} {odo5 ano5 : Option Addr} {slo5 : Array (Option Value)} {oco5 kVo5 dco5 pmo5 cdo5 cto5 : Value} (ao5 : PySem.W.nsIn K mainGlobals "law" = some (some (.ref fo5)))
    (lo5 : K.lookup fo5 = some ⟨oco5, odo5, .func (PySem.W.fnOf "law" "law" (defArgs s_law) (defBody s_law) (defScope s_law) .none kVo5 dco5 pmo5 ano5 cdo5 cto5), slo5⟩) (eo5 : PySem.W.codeIn K cdo5 "law" = true) (ko5 : PySem.W.keepIn K (.ref fo5) = true)
    (z_abs : PySem.W.nsIn K mainGlobals "abs" = some none)
    (z_all : PySem.W.nsIn K mainGlobals "all" = some none)
    (z_bool : PySem.W.nsIn K mainGlobals "bool" = some none)
    (z_int : PySem.W.nsIn K mainGlobals "int" = some none)
    (z_isinstance : PySem.W.nsIn K mainGlobals "isinstance" = some none)
    (z_len : PySem.W.nsIn K mainGlobals "len" = some none)
    (z_list : PySem.W.nsIn K mainGlobals "list" = some none)
    (z_max : PySem.W.nsIn K mainGlobals "max" = some none)
    (z_min : PySem.W.nsIn K mainGlobals "min" = some none)
    (z_range : PySem.W.nsIn K mainGlobals "range" = some none)
    (z_sum : PySem.W.nsIn K mainGlobals "sum" = some none)
    (z_tuple : PySem.W.nsIn K mainGlobals "tuple" = some none)
    (z_zip : PySem.W.nsIn K mainGlobals "zip" = some none)
    {p_ROUND : Addr} {n_ROUND : Nat} {t_ROUND0 t_ROUND1 t_ROUND2 t_ROUND3 : Tok} {q_ROUND : Array (Option Value)} (c_ROUND : PySem.W.nsIn K mainGlobals "ROUND" = some (some (.ref p_ROUND))) (h_ROUND : K.lookup p_ROUND = some ⟨.type "tuple", none, .seq #[.int 0 t_ROUND0, .int 1 t_ROUND1, .int 3 t_ROUND2, .int 2 t_ROUND3] n_ROUND, q_ROUND⟩)
    {t_LONGEST : Tok} (c_LONGEST : PySem.W.nsIn K mainGlobals "LONGEST" = some (some (.int 40 t_LONGEST)))
    {t_MOST_PLAY : Tok} (c_MOST_PLAY : PySem.W.nsIn K mainGlobals "MOST_PLAY" = some (some (.int 9 t_MOST_PLAY)))
    {t_MOST_MOVES : Tok} (c_MOST_MOVES : PySem.W.nsIn K mainGlobals "MOST_MOVES" = some (some (.int 40 t_MOST_MOVES)))
    {t_FARTHEST : Tok} (c_FARTHEST : PySem.W.nsIn K mainGlobals "FARTHEST" = some (some (.int 99 t_FARTHEST)))
    {t_FAR : Tok} (c_FAR : PySem.W.nsIn K mainGlobals "FAR" = some (some (.int 999 t_FAR)))
    : ∃ fd : FuncData, (∀ (s : Shared) (v : Value), BindsTo s fd ⟨[v], []⟩ [("script", v)]) ∧ ∀ base : Heap, K.In base → base.Ns mainGlobals mg → FnOk l.prog w K mg base CX0 6 fa fd ["script"] (spLaw K) := by
  obtain ⟨fd, C, h1, h2⟩ := all_mk (l := l) (w := w) X Gg hfa a0 l0 e0 k0 a1 l1 e1 k1 a2 l2 e2 k2 a3 l3 e3 k3 a4 l4 e4 k4 a5 l5 e5 k5 a6 l6 e6 k6 a7 l7 e7 k7 a8 l8 e8 k8 a9 l9 e9 k9 a10 l10 e10 k10 a11 l11 e11 k11 a12 l12 e12 k12 a13 l13 e13 k13 a14 l14 e14 k14 c_Knob cp ch co ca nf_own nf_now nf_past nf_later ao0 io0 lo0 eo0 ko0 ao1 io1 lo1 eo1 ko1 ao2 io2 lo2 eo2 ko2 ao3 io3 mkm mkk lo3 eo3 ko3 ao4 io4 lo4 eo4 ko4 ao5 lo5 eo5 ko5 z_abs z_all z_bool z_int z_isinstance z_len z_list z_max z_min z_range z_sum z_tuple z_zip c_ROUND h_ROUND c_LONGEST c_MOST_PLAY c_MOST_MOVES c_FARTHEST c_FAR
  exact ⟨fd, h1, fun base b1 b2 => law_end fun ns => h2 base b1 b2 ns⟩
end G

namespace G
open M PySem
theorem m_whole (i lo hi : Int) : m_is_whole [.int i, .int lo, .int hi] = .rt (.bool (decide (lo ≤ i) && decide (i ≤ hi))) := by
  by_cases h1 : lo ≤ i
  · by_cases h2 : i ≤ hi <;> simp [m_is_whole, tl0_is_whole, fnM0, fnM, sSeq, sIf, sRet, sRetN, sSet, sNil, sDrop, sPar, sPar3, sPar4, sUnp, sApp, sExt, sPut, sFrz, own, frz, nD, nO, nLst, e1, e2, nm, bnm, cst, bv, chE, andT, orT, notT, andV, orV, notV, ifE, cons', tupE, lstE, asB, M.call, ncall, lcall, flatR, flatD, Out.r, Out.s, R.bind, R.of, R.out, pickF, bName, bTup, bNames, itE, items, sFor, lcD, sBad, yes, addD, subD, mulD, fdivD, modD, negD, ltD, leD, gtD, geD, isD, isntD, isNone, lenD, absD, maxD, minD, M.intD, listD, tupleD, isiE, isiTE, isi, isDict, allD, anyD, sumD, h1, h2]
  · simp [m_is_whole, tl0_is_whole, fnM0, fnM, sSeq, sIf, sRet, sRetN, sSet, sNil, sDrop, sPar, sPar3, sPar4, sUnp, sApp, sExt, sPut, sFrz, own, frz, nD, nO, nLst, e1, e2, nm, bnm, cst, bv, chE, andT, orT, notT, andV, orV, notV, ifE, cons', tupE, lstE, asB, M.call, ncall, lcall, flatR, flatD, Out.r, Out.s, R.bind, R.of, R.out, pickF, bName, bTup, bNames, itE, items, sFor, lcD, sBad, yes, addD, subD, mulD, fdivD, modD, negD, ltD, leD, gtD, geD, isD, isntD, isNone, lenD, absD, maxD, minD, M.intD, listD, tupleD, isiE, isiTE, isi, isDict, allD, anyD, sumD, h1]
end G
namespace G
open M PySem
def leaf : D → Bool
  | .int _ => true
  | .bool _ => true
  | .none => true
  | _ => false
theorem lay_leafs : ∀ xs : List D, xs.all leaf = true → PyData.canLayAll0 xs = true
  | [], _ => by simp [PyData.canLayAll0]
  | x :: xs, h => by
    simp only [List.all_cons, Bool.and_eq_true] at h
    have ih := lay_leafs xs h.2
    cases x <;> first | (simp [leaf] at h; done) | simp [PyData.canLayAll0, PyData.canLay0, ih]
theorem depth_leafs : ∀ xs : List D, xs.all leaf = true → PyData.depthAll xs = 0
  | [], _ => by simp [PyData.depthAll]
  | x :: xs, h => by
    simp only [List.all_cons, Bool.and_eq_true] at h
    have ih := depth_leafs xs h.2
    cases x <;> first | (simp [leaf] at h; done) | simp [PyData.depthAll, PyData.depth, ih]
theorem shaped_leafs {xs : List D} (h : xs.all leaf = true) : SeqAt.shaped (.list xs) = true := by
  simp [SeqAt.shaped, PyData.canLay0, lay_leafs xs h, PyData.depth, depth_leafs xs h]
theorem eqv_leafs : ∀ xs : List D, xs.all leaf = true → PyData.eqvAll xs xs = true
  | [], _ => by simp [PyData.eqvAll]
  | x :: xs, h => by
    simp only [List.all_cons, Bool.and_eq_true] at h
    have ih := eqv_leafs xs h.2
    cases x <;> first | (simp [leaf] at h; done) | simp [PyData.eqvAll, PyData.eqv, ih]
theorem neD_same {xs : List D} (h : xs.all leaf = true) : neD (.list xs) (.list xs) = some false := by
  unfold neD
  rw [shaped_leafs h, if_pos (by rfl)]
  simp [PyData.eqv, eqv_leafs xs h]
theorem eqD_same {xs : List D} (h : xs.all leaf = true) : eqD (.list xs) (.list xs) = some true := by
  unfold eqD
  rw [shaped_leafs h, if_pos (by rfl)]
  simp [PyData.eqv, eqv_leafs xs h]
theorem leaf_opt (o : Option Int) : leaf (optD o) = true := by cases o <;> rfl
theorem ixT (row : List Int) (i : Nat) (h : i < row.length) : ixD (.tuple (row.map .int)) (.int (i : Nat)) = some (.int (row.getD i 0)) := by
  simp only [ixD, L2.atI, L2.ixN, List.length_map]
  rw [if_pos (by omega), if_pos (by omega)]
  simp [h, List.getD_eq_getElem?_getD]
theorem ixL {α : Type} (f : α → D) (row : List α) (i : Nat) (h : i < row.length) : ixD (.list (row.map f)) (.int (i : Nat)) = some (f row[i]) := by
  simp only [ixD, L2.atI, L2.ixN, List.length_map]
  rw [if_pos (by omega), if_pos (by omega)]
  simp [h]
theorem sIx_mid {n : Nat} {d : Nat} {i : Nat} (h : i ≤ n) : HT.sIx n d (some (i : Int)) = i := by
  unfold HT.sIx
  simp
  rw [if_neg (by omega)]
  omega
theorem uniq_one {xs : List Int} (h : xs ≠ []) : (Mset.uniq xs).length = 1 ↔ ∃ a, ∀ x ∈ xs, x = a := by
  constructor
  · intro e
    obtain ⟨a, ha⟩ := List.length_eq_one_iff.mp e
    exact ⟨a, fun x hx => by have := Mset.mem_uniq.mpr hx; rw [ha] at this; simpa using this⟩
  · rintro ⟨a, ha⟩
    have hn := Mset.uniq_nodup xs
    have hm : ∀ x ∈ Mset.uniq xs, x = a := fun x hx => ha x (Mset.mem_uniq.mp hx)
    cases e : Mset.uniq xs with
    | nil =>
      obtain ⟨y, hy⟩ := List.exists_mem_of_ne_nil xs h
      have := Mset.mem_uniq.mpr hy
      rw [e] at this
      simp at this
    | cons b t =>
      cases t with
      | nil => rfl
      | cons c t =>
        rw [e] at hn hm
        have h1 := hm b (by simp)
        have h2 := hm c (by simp)
        simp [h1, h2] at hn
theorem rng_get {n i : Nat} {x : D} (h : (rng 0 n)[i]? = some x) : i < n ∧ x = .int (i : Nat) := by
  unfold rng at h
  rw [List.getElem?_map] at h
  by_cases c : i < n
  · rw [List.getElem?_range c] at h
    simp at h
    exact ⟨c, h.symm⟩
  · rw [List.getElem?_eq_none (by simp; omega)] at h
    cases h
theorem rng_len (lo : Int) (n : Nat) : (rng lo n).length = n := by simp [rng]
theorem isNone_opt (o : Option Int) : isNone (optD o) = decide (o = none) := by cases o <;> rfl
theorem ixT' (row : List Int) {k : Int} (h0 : 0 ≤ k) (h : k.toNat < row.length) : ixD (.tuple (row.map .int)) (.int k) = some (.int (row.getD k.toNat 0)) := by
  have := ixT row k.toNat h
  rwa [Int.toNat_of_nonneg h0] at this
theorem getD_rng {row : List Int} (h : ∀ x ∈ row, 0 ≤ x ∧ x ≤ 3) (i : Nat) : 0 ≤ row.getD i 0 ∧ row.getD i 0 ≤ 3 := by
  rw [List.getD_eq_getElem?_getD]
  cases e : row[i]? with
  | none => simp
  | some x => exact h x (List.mem_of_getElem? e)
/-- neighbours -/
def pairs {α : Type} (g : Int → Int → α) : Int → List Int → List α
  | _, [] => []
  | a, x :: xs => g a x :: pairs g x xs
theorem pairs_len {α : Type} (g : Int → Int → α) : ∀ (xs : List Int) (a : Int), (pairs g a xs).length = xs.length
  | [], _ => rfl
  | x :: xs, a => by simp [pairs, pairs_len g xs]
theorem pairs_range {α : Type} (g : Int → Int → α) : ∀ (xs : List Int) (a : Int), pairs g a xs = (List.range xs.length).map fun i => g ((a :: xs).getD i 0) ((a :: xs).getD (i + 1) 0)
  | [], _ => rfl
  | x :: xs, a => by
    rw [pairs, pairs_range g xs x, List.length_cons, List.range_succ_eq_map, List.map_cons, List.map_map]
    rfl
theorem zip_lc {ρ : Rho} {b : D → Rho → Option Rho} {f : Rho → R D} (g : Int → Int → D) (β : Int → Int → Rho) (hb : ∀ x y : Int, b (.tuple [.int x, .int y]) ρ = some (β x y)) : ∀ (xs : List Int) (a : Int), (∀ x y, x ∈ a :: xs → y ∈ xs → f (β x y) = .ok (g x y)) → lcL b yes f ρ (zipD ((a :: xs).map .int) (xs.map .int)) = some (pairs g a xs)
  | [], a, _ => rfl
  | x :: xs, a, h => by
    have ih := zip_lc g β hb xs x fun u v hu hv => h u v (by simp at hu ⊢; rcases hu with rfl | hu <;> simp [*]) (by simp [hv])
    have e : zipD ((a :: x :: xs).map PyData.int) ((x :: xs).map PyData.int) = .tuple [.int a, .int x] :: zipD ((x :: xs).map PyData.int) (xs.map PyData.int) := rfl
    rw [e, lcL, hb]
    simp only [show ∀ ρ, yes ρ = R.ok true from fun _ => rfl, h a x (by simp) (by simp)]
    rw [ih]
    rfl
theorem enum_ints (row : List Int) : enumD (row.map .int) = (List.range row.length).map fun (i : Nat) => PyData.tuple [.int (i : Nat), .int (row.getD i 0)] := by
  unfold enumD
  refine List.ext_getElem (by simp) fun i h1 h2 => ?_
  simp at h1
  simp [List.getD_eq_getElem?_getD, h1]
theorem none_in (l : List (Option Int)) : inD .none (.list (l.map optD)) = some (decide (none ∈ l)) := by
  simp only [inD]
  rw [shaped_none, shaped_leafs (by simp [leaf_opt]), if_pos (by rfl), List.any_map]
  congr 1
  rw [Bool.eq_iff_iff, List.any_eq_true, decide_eq_true_iff]
  constructor
  · rintro ⟨x, hx, he⟩
    cases x with
    | none => exact hx
    | some i => simp [optD, PyData.eqv] at he
  · intro h
    exact ⟨none, h, by simp [optD, PyData.eqv]⟩
theorem ints_opts : ∀ l : List (Option Int), none ∉ l → intsOf (l.map optD) = some (l.map (·.getD 0))
  | [], _ => rfl
  | none :: l, h => absurd (by simp) h
  | some i :: l, h => by
    simp only [List.mem_cons, not_or] at h
    simp [optD, intsOf, ints_opts l h.2]
theorem eqD_opt (a b : Option Int) : eqD (optD a) (optD b) = some (decide (a = b)) := by
  unfold eqD
  rw [shaped_opt, shaped_opt, if_pos (by rfl)]
  cases a <;> cases b <;> simp [optD, PyData.eqv]
  congr 1
theorem neD_bool (a b : Bool) : neD (.bool a) (.bool b) = some (a != b) := by
  unfold neD
  rw [shaped_bool, shaped_bool, if_pos (by rfl)]
  cases a <;> cases b <;> rfl
end G
namespace G
open M PySem
theorem m_sample {x : Int} (h : 0 ≤ x ∧ x ≤ 3) : m_is_sample [.int x] = .rt (.bool true) := by
  simp [m_is_sample, tl0_is_sample, fnM0, fnM, sSeq, sIf, sRet, sRetN, sSet, sNil, sDrop, sPar, sPar3, sPar4, sUnp, sApp, sExt, sPut, sFrz, own, frz, nD, nO, nLst, e1, e2, nm, bnm, cst, bv, chE, andT, orT, notT, andV, orV, notV, ifE, cons', tupE, lstE, asB, M.call, ncall, lcall, flatR, flatD, Out.r, Out.s, R.bind, R.of, R.out, pickF, bName, bTup, bNames, itE, items, sFor, lcD, sBad, yes, m_whole, h]
theorem m_isrow {row : List Int} (h1 : 1 ≤ row.length) (h2 : row.length ≤ 40) (h3 : ∀ x ∈ row, 0 ≤ x ∧ x ≤ 3) : m_is_row [.tuple (row.map .int)] = .rt (.bool true) := by
  refine fn_rt rfl ?_
  have key : lcL (bName 1) yes ce1_is_row [.d (.tuple (row.map .int)), .no] (row.map .int) = some ((row.map fun _ => true).map .bool) := by
    rw [lcL_all (d := PyData.int) (β := fun x => [.d (.tuple (row.map .int)), .d (.int x)]) (F := fun _ => .bool true)]
    · simp
    · intro x hx
      exact ⟨rfl, by simp [ce1_is_row, fnM0, fnM, sSeq, sIf, sRet, sRetN, sSet, sNil, sDrop, sPar, sPar3, sPar4, sUnp, sApp, sExt, sPut, sFrz, own, frz, nD, nO, nLst, e1, e2, nm, bnm, cst, bv, chE, andT, orT, notT, andV, orV, notV, ifE, cons', tupE, lstE, asB, M.call, ncall, lcall, flatR, flatD, Out.r, Out.s, R.bind, R.of, R.out, pickF, bName, bTup, bNames, itE, items, sFor, lcD, sBad, yes, m_sample (h3 x hx)]⟩
  have c1 : (1 : Int) ≤ row.length := by omega
  have c2 : (row.length : Int) ≤ 40 := by omega
  have c3 : (row.map PyData.int).length ≤ 1000000 := by simp; omega
  have hb := bools_map (row.map fun _ => true)
  have hall : (row.map fun _ => true).all id = true := by simp
  generalize hB : (row.map fun _ => true) = bs at key hb hall
  have c4 : row.length ≤ 1000000 := by omega
  simp only [tl0_is_row, sRet, andV, bv, chE, e1, bnm, cst, cons', lcD, lcE, itE, items, nm, isiE, isi, isDict, lenD, leD, R.bind, R.of, R.out, List.getElem?_cons_zero, List.getElem?_cons_succ, List.length_map, decide_eq_true c1, decide_eq_true c2, if_true, c3, wip, List.set, key, allD, hb, Bool.false_eq_true, if_false]
  simp [c1, c2, c4, key, hb, hall, R.bind, R.of, wip, List.set]
theorem m_lookrow {row : List Int} (h1 : 1 ≤ row.length) (h2 : row.length ≤ 40) (h3 : ∀ x ∈ row, 0 ≤ x ∧ x ≤ 3) : m_look_row [.tuple (row.map .int)] = .rt .none := by
  simp [m_look_row, tl0_look_row, fnM0, fnM, sSeq, sIf, sRet, sRetN, sSet, sNil, sDrop, sPar, sPar3, sPar4, sUnp, sApp, sExt, sPut, sFrz, own, frz, nD, nO, nLst, e1, e2, nm, bnm, cst, bv, chE, andT, orT, notT, andV, orV, notV, ifE, cons', tupE, lstE, asB, M.call, ncall, lcall, flatR, flatD, Out.r, Out.s, R.bind, R.of, R.out, pickF, bName, bTup, bNames, itE, items, sFor, lcD, sBad, yes, m_isrow h1 h2 h3]
end G
namespace G
open M PySem
def gi (x : Int) : Int := if x = 0 then 0 else if x = 1 then 1 else if x = 3 then 2 else 3
def fo (x y : Int) : Int := (gi y - gi x) % 4
def st (x y : Int) : Option Int := if fo x y = 0 then some 0 else if fo x y = 1 then some 1 else if fo x y = 2 then none else some (-1)
theorem samp {x : Int} (h : 0 ≤ x ∧ x ≤ 3) : x = 0 ∨ x = 1 ∨ x = 2 ∨ x = 3 := by omega
theorem m_far {x y : Int} (hx : 0 ≤ x ∧ x ≤ 3) (hy : 0 ≤ y ∧ y ≤ 3) : m_far_on [.int x, .int y] = .rt (.int (fo x y)) := by
  rcases samp hx with rfl | rfl | rfl | rfl <;> rcases samp hy with rfl | rfl | rfl | rfl <;> rfl
theorem m_step {x y : Int} (hx : 0 ≤ x ∧ x ≤ 3) (hy : 0 ≤ y ∧ y ≤ 3) : m_step_between [.int x, .int y] = .rt (optD (st x y)) := by
  rcases samp hx with rfl | rfl | rfl | rfl <;> rcases samp hy with rfl | rfl | rfl | rfl <;> rfl
theorem fo_rng (x y : Int) : 0 ≤ fo x y ∧ fo x y ≤ 3 := by unfold fo; omega
theorem st_none (x y : Int) : st x y = none ↔ fo x y = 2 := by
  have := fo_rng x y
  unfold st
  by_cases h0 : fo x y = 0
  · simp [h0]
  · by_cases h1 : fo x y = 1
    · simp [h1]
    · by_cases h2 : fo x y = 2 <;> simp [h0, h1, h2]
theorem st_one (x y : Int) : (st x y = some 1 ∨ st x y = some (-1)) ↔ (fo x y = 1 ∨ fo x y = 3) := by
  have := fo_rng x y
  unfold st
  by_cases h0 : fo x y = 0
  · simp [h0]
  · by_cases h1 : fo x y = 1
    · simp [h1]
    · by_cases h2 : fo x y = 2
      · simp [h2]
      · have : fo x y = 3 := by omega
        simp [this]
theorem st_same (x : Int) : st x x = some 0 := by simp [st, fo]
end G
namespace G
open M PySem
def pc (l : List (Option Int)) : Option Int := if none ∈ l then none else some (l.map (·.getD 0)).sum
theorem pairs_map {α β : Type} (g : Int → Int → α) (f : α → β) : ∀ (xs : List Int) (a : Int), pairs (fun x y => f (g x y)) a xs = (pairs g a xs).map f
  | [], _ => rfl
  | x :: xs, a => by simp [pairs, pairs_map g f xs]
theorem m_plain {a : Int} {xs : List Int} (h2 : (a :: xs).length ≤ 40) (h3 : ∀ x ∈ a :: xs, 0 ≤ x ∧ x ≤ 3) : m_plain_count [.tuple ((a :: xs).map .int)] = .rt (optD (pc (pairs st a xs))) := by
  refine fn_rt rfl ?_
  show tl0_plain_count [.d (.tuple ((a :: xs).map .int)), .no, .no, .no] = _
  rw [tl0_plain_count, seq_nx (ρ' := [.d (.tuple ((a :: xs).map .int)), .no, .no, .no]) (by
    have := m_lookrow (row := a :: xs) (by simp) h2 h3
    simp only [sDrop, M.call, cons', nm, cst, R.bind, R.of, List.getElem?_cons_zero, this, Out.r, R.out]), tl1_plain_count]
  have key := zip_lc (ρ := [.d (.tuple ((a :: xs).map .int)), .no, .no, .no]) (b := bTup [2, 3]) (f := ce1_plain_count) (fun x y => optD (st x y)) (fun x y => [.d (.tuple ((a :: xs).map .int)), .no, .d (.int x), .d (.int y)]) (fun x y => rfl) xs a (fun x y hx hy => by
    have := m_step (h3 x hx) (h3 y (by simp [hy]))
    simp only [ce1_plain_count, M.call, cons', nm, cst, R.bind, R.of, List.getElem?_cons_zero, List.getElem?_cons_succ, this, Out.r])
  rw [pairs_map] at key
  have hsl : slD (.tuple ((a :: xs).map .int)) (some 1) none = some (.tuple (xs.map .int)) := by
    simp only [slD, cutD, HT.sIx]
    simp
    rw [List.take_of_length_le (by simp)]
  have hcl : (zipD ((a :: xs).map PyData.int) (xs.map PyData.int)).length ≤ 1000000 := by
    simp at h2
    simp [zipD]
    omega
  rw [seq_nx (ρ' := [.d (.tuple ((a :: xs).map .int)), .o ((pairs st a xs).map optD), .no, .no]) (by
    simp only [sSet, nO, lcE, zpE, slE, e1, asI, cst, bnm, nm, R.bind, R.of, List.getElem?_cons_zero, List.getElem?_cons_succ, hsl, hcl, if_true, wip, List.set, key, R.out]), tl2_plain_count]
  unfold pc
  by_cases c : none ∈ pairs st a xs
  · rw [if_pos c]
    simp only [sRet, ifE, e2, cst, bnm, R.bind, R.of, List.getElem?_cons_zero, List.getElem?_cons_succ, none_in, decide_eq_true c, if_true, R.out]
    rfl
  · rw [if_neg c]
    simp only [sRet, ifE, e2, e1, cons', cst, bnm, R.bind, R.of, List.getElem?_cons_zero, List.getElem?_cons_succ, none_in, decide_eq_false c, sumD, ints_opts _ c, Option.map_some, R.out]
    rfl
end G
namespace G
open M PySem
/-! ### made_by -/
def rd (i : Int) : Int := if i % 4 = 0 then 0 else if i % 4 = 1 then 1 else if i % 4 = 2 then 3 else 2
theorem rd_rng (i : Int) : 0 ≤ rd i ∧ rd i ≤ 3 := by
  unfold rd
  split
  · decide
  · split
    · decide
    · split <;> decide
theorem gi_rd (i : Int) : gi (rd i) = i % 4 := by
  have h : i % 4 = 0 ∨ i % 4 = 1 ∨ i % 4 = 2 ∨ i % 4 = 3 := by omega
  unfold rd
  rcases h with h | h | h | h <;> rw [h] <;> rfl
theorem rd_ixT (i : Int) : ixD (.tuple (([0, 1, 3, 2] : List Int).map .int)) (.int (i % 4)) = some (.int (rd i)) := by
  have h : i % 4 = 0 ∨ i % 4 = 1 ∨ i % 4 = 2 ∨ i % 4 = 3 := by omega
  unfold rd
  rcases h with h | h | h | h <;> rw [h] <;> rfl
theorem rd_ixL (i : Int) : ixD (.list [.int 0, .int 1, .int 3, .int 2]) (.int (i % 4)) = some (.int (rd i)) := by
  have h : i % 4 = 0 ∨ i % 4 = 1 ∨ i % 4 = 2 ∨ i % 4 = 3 := by omega
  unfold rd
  rcases h with h | h | h | h <;> rw [h] <;> rfl
theorem idx_gi {x : Int} (h : 0 ≤ x ∧ x ≤ 3) : idxK [0, 1, 3, 2] (.int x) = some (.int (gi x)) ∧ idxL (.list [.int 0, .int 1, .int 3, .int 2]) (.int x) = some (.int (gi x)) := by
  rcases samp h with rfl | rfl | rfl | rfl <;> exact ⟨rfl, rfl⟩
def nx (a s : Int) : Int := rd (gi a + s)
def mk : Int → List Int → List Int
  | _, [] => []
  | a, s :: l => nx a s :: mk (nx a s) l
theorem mk_len : ∀ (l : List Int) (a : Int), (mk a l).length = l.length
  | [], _ => rfl
  | s :: l, a => by simp [mk, mk_len l]
theorem mk_rng : ∀ (l : List Int) (a : Int), ∀ x ∈ mk a l, 0 ≤ x ∧ x ≤ 3
  | [], _, x, h => by simp [mk] at h
  | s :: l, a, x, h => by
    rcases List.mem_cons.mp h with rfl | h
    · exact rd_rng _
    · exact mk_rng l _ x h
theorem st_nx (a s : Int) (hs : s = 1 ∨ s = -1) : st a (nx a s) = some s := by
  have h : fo a (nx a s) = s % 4 := by
    unfold fo nx
    rw [gi_rd]
    omega
  unfold st
  rw [h]
  rcases hs with rfl | rfl <;> decide
theorem mk_st : ∀ (l : List Int) (a : Int), (∀ s ∈ l, s = 1 ∨ s = -1) → pairs st a (mk a l) = l.map some
  | [], _, _ => rfl
  | s :: l, a, h => by
    rw [mk, pairs, mk_st l _ fun x hx => h x (by simp [hx]), st_nx a s (h s (by simp))]
    rfl
theorem ixl_last (xs : List Int) (y : Int) : ixD (.list ((xs ++ [y]).map .int)) (.int (-1)) = some (.int y) := by
  simp only [ixD, L2.atI, L2.ixN, List.length_map]
  rw [if_neg (by decide), if_pos (by simp; omega)]
  have e : ((-1 : Int) + ((xs ++ [y]).length : Nat)).toNat = xs.length := by simp; omega
  simp only [e, Option.bind_some, List.getElem?_map]
  rw [List.getElem?_append_right (by omega)]
  simp
theorem made_loop {s0 s1 : Sl} : ∀ (ss : List Int) (acc : List Int) (a : Int) (s3 : Sl), (0 ≤ a ∧ a ≤ 3) → acc.length + ss.length + 1 < 1000000 → ∃ s3', forL (bName 3) lb2_made_by (ss.map .int) [s0, s1, .o ((acc ++ [a]).map .int), s3] = .nx [s0, s1, .o ((acc ++ a :: mk a ss).map .int), s3']
  | [], acc, a, s3, _, _ => ⟨s3, rfl⟩
  | s :: ss, acc, a, s3, ha, hl => by
    simp only [List.length_cons] at hl
    obtain ⟨s3', e⟩ := made_loop (s0 := s0) (s1 := s1) ss (acc ++ [a]) (nx a s) (.d (.int s)) (rd_rng _) (by simp; omega)
    refine ⟨s3', ?_⟩
    have h1 := ixl_last acc a
    have h2 := (idx_gi ha).1
    have h3 := rd_ixT (gi a + s)
    have hl2 : ((acc ++ [a]).map PyData.int).length < 1000000 := by simp; omega
    rw [List.map_cons, forL_nx (ρ2 := [s0, s1, .o ((acc ++ [a] ++ [nx a s]).map .int), .d (.int s)]) rfl (by
      show lb2_made_by [s0, s1, .o ((acc ++ [a]).map .int), .d (.int s)] = _
      have hap : (acc ++ [a]).map PyData.int ++ [.int (rd (gi a + s))] = (acc ++ [a] ++ [nx a s]).map .int := by simp [nx]
      generalize (acc ++ [a]).map PyData.int = B at *
      have h3' : ixD (.tuple [.int 0, .int 1, .int 3, .int 2]) (.int ((gi a + s) % 4)) = some (.int (rd (gi a + s))) := h3
      simp only [lb2_made_by, sApp, e1, e2, bnm, cst, R.bind, R.of, List.getElem?_cons_zero, List.getElem?_cons_succ, negD, h1, h2, addD, modD, Int.reduceLT, if_true]
      simp only [List.map_cons, List.map_nil, h3', R.out, hl2, if_true, List.set, hap]), e]
    simp [mk]
theorem m_made {a : Int} (ha : 0 ≤ a ∧ a ≤ 3) {ss : List Int} (hl : ss.length < 40) : m_made_by [.int a, .list (ss.map .int)] = .rt (.tuple ((a :: mk a ss).map .int)) := by
  obtain ⟨s3, e⟩ := made_loop (s0 := .d (.int a)) (s1 := .d (.list (ss.map .int))) ss [] a .no ha (by simp; omega)
  have h1 := m_sample ha
  have hlen : lenD [.list (ss.map .int)] = some (.int (ss.length : Nat)) := by simp [lenD]
  have hge : ¬ (40 : Int) ≤ (ss.length : Int) := by omega
  have hty : isiTE .list .tuple (.list (ss.map .int)) = some (.bool true) := rfl
  have key : lcL (bName 3) yes ce1_made_by [.d (.int a), .d (.list (ss.map .int)), .no, .no] (ss.map .int) = some ((ss.map fun _ => true).map .bool) := by
    rw [lcL_all (d := PyData.int) (β := fun x => [.d (.int a), .d (.list (ss.map .int)), .no, .d (.int x)]) (F := fun _ => .bool true)]
    · simp
    · intro x _
      have h4 : m_is_any_whole [.int x] = .rt (.bool true) := by
        simp [m_is_any_whole, tl0_is_any_whole, fnM0, fnM, sSeq, sIf, sRet, sRetN, sSet, sNil, sDrop, sPar, sPar3, sPar4, sUnp, sApp, sExt, sPut, sFrz, own, frz, nD, nO, nLst, e1, e2, nm, bnm, cst, bv, chE, andT, orT, notT, andV, orV, notV, ifE, cons', tupE, lstE, asB, M.call, ncall, lcall, flatR, flatD, Out.r, Out.s, R.bind, R.of, R.out, pickF, bName, bTup, bNames, itE, items, sFor, lcD, sBad, yes, isiE, isi, isDict]
      exact ⟨rfl, by simp only [ce1_made_by, M.call, cons', nm, cst, R.bind, R.of, List.getElem?_cons_zero, List.getElem?_cons_succ, h4, Out.r]⟩
  have hbs := bools_map (ss.map fun _ => true)
  have hball : (ss.map fun _ => true).all id = true := by simp
  have g1 : (ss.map PyData.int).length ≤ 1000000 := by simp; omega
  generalize (ss.map fun _ => true) = bs at *
  refine fn_rt rfl ?_
  show tl0_made_by [.d (.int a), .d (.list (ss.map .int)), .no, .no] = _
  rw [tl0_made_by, seq_nx (ρ' := [.d (.int a), .d (.list (ss.map .int)), .no, .no]) (by
    simp only [sIf, orT, notT, e1, e2, M.call, cons', nm, bnm, cst, R.bind, R.of, List.getElem?_cons_zero, List.getElem?_cons_succ, h1, Out.r, asB, hty, hlen, geD, decide_eq_false hge, Bool.not_true, Bool.false_eq_true, if_false, R.out]
    rfl), tl1_made_by,
    seq_nx (ρ' := [.d (.int a), .d (.list (ss.map .int)), .no, .no]) (by
    simp only [sIf, notT, e1, cons', lcD, lcE, itE, items, nm, cst, R.bind, R.of, List.getElem?_cons_zero, List.getElem?_cons_succ, g1, if_true, wip, List.set, key, allD, hbs, Option.map_some, hball, asB, R.out]
    rfl), tl2_made_by,
    seq_nx (ρ' := [.d (.int a), .d (.list (ss.map .int)), .o [.int a], .no]) (by
    simp only [sSet, nLst, cons', nm, cst, R.bind, R.of, List.getElem?_cons_zero, List.length_cons, List.length_nil, Nat.zero_add, Nat.reduceLeDiff, if_true, R.out, List.set]), tl3_made_by,
    seq_nx (ρ' := [.d (.int a), .d (.list (ss.map .int)), .o ((a :: mk a ss).map .int), s3]) (by
    simp only [sFor, itE, items, nm, R.bind, R.of, List.getElem?_cons_zero, List.getElem?_cons_succ, R.out]
    exact e), tl4_made_by]
  simp only [sRet, e1, cons', bnm, cst, R.bind, R.of, List.getElem?_cons_zero, List.getElem?_cons_succ, tupleD, R.out]
end G
namespace G
open M PySem
/-- the other wheel, by play, from where the driver and it are -/
def go (p : Int) : Int → Int → List Int → List Int
  | _, _, [] => []
  | d, o, m :: ms => max (d + m - p) (min (d + m) o) :: go p (d + m) (max (d + m - p) (min (d + m) o)) ms
theorem go_len (p : Int) : ∀ (ms : List Int) (d o : Int), (go p d o ms).length = ms.length
  | [], _, _ => rfl
  | m :: ms, d, o => by simp [go, go_len p ms]
theorem go_loop (p : Int) (A b : Sl) : ∀ (ms : List Int) (d o : Int) (s : Sl) (acc : List D), acc.length + ms.length < 1000000 → ∃ s' d' o',
    forL (bName 4) lb1_go_along (ms.map .int) [A, .d (.int p), b, .d (.int o), s, .d (.int d), .o acc] = .nx [A, .d (.int p), b, o', s', d', .o (acc ++ (go p d o ms).map .int)]
  | [], d, o, s, acc, _ => ⟨s, .d (.int d), .d (.int o), by simp [forL, go]⟩
  | m :: ms, d, o, s, acc, h => by
    simp only [List.length_cons] at h
    obtain ⟨s', d', o', e⟩ := go_loop p A b ms (d + m) (max (d + m - p) (min (d + m) o)) (.d (.int m)) (acc ++ [.int (max (d + m - p) (min (d + m) o))]) (by simp; omega)
    refine ⟨s', d', o', ?_⟩
    have h1 : (if o < d + m then o else d + m) = min (d + m) o := by split <;> omega
    have h2 : ∀ x y : Int, (if x < y then y else x) = max x y := fun x y => by split <;> omega
    have h3 : acc.length < 1000000 := by omega
    rw [List.map_cons, forL_nx (ρ2 := [A, .d (.int p), b, .d (.int (max (d + m - p) (min (d + m) o))), .d (.int m), .d (.int (d + m)), .o (acc ++ [.int (max (d + m - p) (min (d + m) o))])]) rfl (by simp [lb1_go_along, fnM0, fnM, sSeq, sIf, sRet, sRetN, sSet, sNil, sDrop, sPar, sPar3, sPar4, sUnp, sApp, sExt, sPut, sFrz, own, frz, nD, nO, nLst, e1, e2, nm, bnm, cst, bv, chE, andT, orT, notT, andV, orV, notV, ifE, cons', tupE, lstE, asB, M.call, ncall, lcall, flatR, flatD, Out.r, Out.s, R.bind, R.of, R.out, pickF, bName, bTup, bNames, itE, items, sFor, lcD, sBad, yes, addD, subD, mulD, fdivD, modD, negD, ltD, leD, gtD, geD, isD, isntD, isNone, lenD, absD, maxD, minD, M.intD, listD, tupleD, isiE, isiTE, isi, isDict, allD, anyD, sumD, h1, h2, h3]), e]
    simp [go]
theorem m_go {ms : List Int} {p b : Int} (h : ms.length < 1000000) : m_go_along [.list (ms.map .int), .int p, .int b] = .rf ((go p b 0 ms).map .int) := by
  obtain ⟨s', d', o', e⟩ := go_loop p (.d (.list (ms.map .int))) (.d (.int b)) ms b 0 .no [] (by simpa using h)
  simp [m_go_along, tl0_go_along, tl1_go_along, tl2_go_along, tl3_go_along, fnM0, fnM, sSeq, sIf, sRet, sRetN, sSet, sNil, sDrop, sPar, sPar3, sPar4, sUnp, sApp, sExt, sPut, sFrz, own, frz, nD, nO, nLst, e1, e2, nm, bnm, cst, bv, chE, andT, orT, notT, andV, orV, notV, ifE, cons', tupE, lstE, asB, M.call, ncall, lcall, flatR, flatD, Out.r, Out.s, R.bind, R.of, R.out, pickF, bName, bTup, bNames, itE, items, sFor, lcD, sBad, yes]
  rw [e]
  simp
theorem m_goT {ms : List Int} {p b : Int} (h : ms.length < 1000000) : m_go_along [.tuple (ms.map .int), .int p, .int b] = .rf ((go p b 0 ms).map .int) := by
  obtain ⟨s', d', o', e⟩ := go_loop p (.d (.tuple (ms.map .int))) (.d (.int b)) ms b 0 .no [] (by simpa using h)
  simp [m_go_along, tl0_go_along, tl1_go_along, tl2_go_along, tl3_go_along, fnM0, fnM, sSeq, sIf, sRet, sRetN, sSet, sNil, sDrop, sPar, sPar3, sPar4, sUnp, sApp, sExt, sPut, sFrz, own, frz, nD, nO, nLst, e1, e2, nm, bnm, cst, bv, chE, andT, orT, notT, andV, orV, notV, ifE, cons', tupE, lstE, asB, M.call, ncall, lcall, flatR, flatD, Out.r, Out.s, R.bind, R.of, R.out, pickF, bName, bTup, bNames, itE, items, sFor, lcD, sBad, yes]
  rw [e]
  simp
theorem look_comp {ms : List Int} (ρ : Rho) (hρ : 2 < ρ.length) (h : ∀ m ∈ ms, -99 ≤ m ∧ m ≤ 99) : lcL (bName 2) yes ce1_look_moves ρ (ms.map .int) = some ((ms.map fun _ => true).map .bool) := by
  rw [lcL_all (d := PyData.int) (β := fun m => ρ.set 2 (.d (.int m))) (F := fun _ => .bool true), List.map_map]
  · rfl
  · intro m hm
    refine ⟨rfl, ?_⟩
    have := h m hm
    have e : (ρ.set 2 (Sl.d (.int m)))[2]? = some (.d (.int m)) := by simp [hρ]
    simp [ce1_look_moves, M.call, cons', nm, e, e2, cst, subD, R.bind, R.of, m_whole, Out.r]
    omega
theorem m_look {ms : List Int} {p : Int} (hl : ms.length ≤ 40) (h : ∀ m ∈ ms, -99 ≤ m ∧ m ≤ 99) (hp : 0 ≤ p ∧ p ≤ 9) : m_look_moves [.list (ms.map .int), .int p] = .rt .none := by
  have e1' : ¬ (40 : Int) < ms.length := by omega
  have e3 := look_comp (wip [2] [.d (.list (ms.map .int)), .d (.int p), .no]) (by simp [wip]) h
  have e4 : ms.length ≤ 1000000 := by omega
  have e5 : boolsOf ((ms.map fun _ => true).map .bool) = some (ms.map fun _ => true) := bools_map _
  simp only [wip] at e3
  simp [m_look_moves, tl0_look_moves, tl1_look_moves, tl2_look_moves, fnM0, fnM, sSeq, sIf, sRet, sRetN, sSet, sNil, sDrop, sPar, sPar3, sPar4, sUnp, sApp, sExt, sPut, sFrz, own, frz, nD, nO, nLst, e1, e2, nm, bnm, cst, bv, chE, andT, orT, notT, andV, orV, notV, ifE, cons', tupE, lstE, asB, M.call, ncall, lcall, flatR, flatD, Out.r, Out.s, R.bind, R.of, R.out, pickF, bName, bTup, bNames, itE, items, sFor, lcD, sBad, yes, addD, subD, mulD, fdivD, modD, negD, ltD, leD, gtD, geD, isD, isntD, isNone, lenD, absD, maxD, minD, M.intD, listD, tupleD, isiE, isiTE, isi, isDict, allD, anyD, sumD, e1', m_whole, hp, lcE, wip, e4]
  simp [yes] at e3 e5 ⊢
  simp [e3, e5, m_whole, hp]
theorem m_lookT {ms : List Int} {p : Int} (hl : ms.length ≤ 40) (h : ∀ m ∈ ms, -99 ≤ m ∧ m ≤ 99) (hp : 0 ≤ p ∧ p ≤ 9) : m_look_moves [.tuple (ms.map .int), .int p] = .rt .none := by
  have e1' : ¬ (40 : Int) < ms.length := by omega
  have e3 := look_comp (wip [2] [.d (.tuple (ms.map .int)), .d (.int p), .no]) (by simp [wip]) h
  have e4 : ms.length ≤ 1000000 := by omega
  have e5 : boolsOf ((ms.map fun _ => true).map .bool) = some (ms.map fun _ => true) := bools_map _
  simp only [wip] at e3
  simp [m_look_moves, tl0_look_moves, tl1_look_moves, tl2_look_moves, fnM0, fnM, sSeq, sIf, sRet, sRetN, sSet, sNil, sDrop, sPar, sPar3, sPar4, sUnp, sApp, sExt, sPut, sFrz, own, frz, nD, nO, nLst, e1, e2, nm, bnm, cst, bv, chE, andT, orT, notT, andV, orV, notV, ifE, cons', tupE, lstE, asB, M.call, ncall, lcall, flatR, flatD, Out.r, Out.s, R.bind, R.of, R.out, pickF, bName, bTup, bNames, itE, items, sFor, lcD, sBad, yes, addD, subD, mulD, fdivD, modD, negD, ltD, leD, gtD, geD, isD, isntD, isNone, lenD, absD, maxD, minD, M.intD, listD, tupleD, isiE, isiTE, isi, isDict, allD, anyD, sumD, e1', m_whole, hp, lcE, wip, e4]
  simp [yes] at e3 e5 ⊢
  simp [e3, e5, m_whole, hp]
def sg (m : Int) : Int := if m > 0 then 1 else -1
/-- never far -/
theorem go_near (p : Int) : ∀ (ms : List Int) (d o k : Int), (∀ m ∈ ms, -7 ≤ m ∧ m ≤ 7) → -7 * k ≤ d → d ≤ p + 7 * k → -7 * k ≤ o → o ≤ 7 * k → ∀ x ∈ go p d o ms, -7 * (k + ms.length) ≤ x ∧ x ≤ 7 * (k + ms.length)
  | [], _, _, _, _, _, _, _, _ => by simp [go]
  | m :: ms, d, o, k, hm, h1, h2, h3, h4 => by
    intro x hx
    have hm0 := hm m (by simp)
    simp only [go, List.mem_cons] at hx
    rcases hx with rfl | hx
    · simp only [List.length_cons]; omega
    · have := go_near p ms (d + m) (max (d + m - p) (min (d + m) o)) (k + 1) (fun y hy => hm y (by simp [hy])) (by omega) (by omega) (by omega) (by omega) x hx
      simp only [List.length_cons]; omega
end G
namespace G
open M PySem
theorem m_foll {ms : List Int} {p b : Int} (h1 : ms.length ≤ 40) (h2 : ∀ m ∈ ms, -99 ≤ m ∧ m ≤ 99) (hp : 0 ≤ p ∧ p ≤ 9) (hb : 0 ≤ b ∧ b ≤ p) : m_followed [.list (ms.map .int), .int p, .int b] = .rf ((go p b 0 ms).map .int) := by
  refine fn_rf rfl ?_
  rw [tl0_followed, seq_nx (ρ' := [.d (.list (ms.map .int)), .d (.int p), .d (.int b)]) (by simp [fnM0, fnM, sSeq, sIf, sRet, sRetN, sSet, sNil, sDrop, sPar, sPar3, sPar4, sUnp, sApp, sExt, sPut, sFrz, own, frz, nD, nO, nLst, e1, e2, nm, bnm, cst, bv, chE, andT, orT, notT, andV, orV, notV, ifE, cons', tupE, lstE, asB, M.call, ncall, lcall, flatR, flatD, Out.r, Out.s, R.bind, R.of, R.out, pickF, bName, bTup, bNames, itE, items, sFor, lcD, sBad, yes, m_look h1 h2 hp]), tl1_followed, seq_nx (ρ' := [.d (.list (ms.map .int)), .d (.int p), .d (.int b)]) (by simp [fnM0, fnM, sSeq, sIf, sRet, sRetN, sSet, sNil, sDrop, sPar, sPar3, sPar4, sUnp, sApp, sExt, sPut, sFrz, own, frz, nD, nO, nLst, e1, e2, nm, bnm, cst, bv, chE, andT, orT, notT, andV, orV, notV, ifE, cons', tupE, lstE, asB, M.call, ncall, lcall, flatR, flatD, Out.r, Out.s, R.bind, R.of, R.out, pickF, bName, bTup, bNames, itE, items, sFor, lcD, sBad, yes, m_whole, hb])]
  simp [tl2_followed, fnM0, fnM, sSeq, sIf, sRet, sRetN, sSet, sNil, sDrop, sPar, sPar3, sPar4, sUnp, sApp, sExt, sPut, sFrz, own, frz, nD, nO, nLst, e1, e2, nm, bnm, cst, bv, chE, andT, orT, notT, andV, orV, notV, ifE, cons', tupE, lstE, asB, M.call, ncall, lcall, flatR, flatD, Out.r, Out.s, R.bind, R.of, R.out, pickF, bName, bTup, bNames, itE, items, sFor, lcD, sBad, yes, m_go (show ms.length < 1000000 by omega)]
theorem m_follT {ms : List Int} {p b : Int} (h1 : ms.length ≤ 40) (h2 : ∀ m ∈ ms, -99 ≤ m ∧ m ≤ 99) (hp : 0 ≤ p ∧ p ≤ 9) (hb : 0 ≤ b ∧ b ≤ p) : m_followed [.tuple (ms.map .int), .int p, .int b] = .rf ((go p b 0 ms).map .int) := by
  refine fn_rf rfl ?_
  rw [tl0_followed, seq_nx (ρ' := [.d (.tuple (ms.map .int)), .d (.int p), .d (.int b)]) (by simp [fnM0, fnM, sSeq, sIf, sRet, sRetN, sSet, sNil, sDrop, sPar, sPar3, sPar4, sUnp, sApp, sExt, sPut, sFrz, own, frz, nD, nO, nLst, e1, e2, nm, bnm, cst, bv, chE, andT, orT, notT, andV, orV, notV, ifE, cons', tupE, lstE, asB, M.call, ncall, lcall, flatR, flatD, Out.r, Out.s, R.bind, R.of, R.out, pickF, bName, bTup, bNames, itE, items, sFor, lcD, sBad, yes, m_lookT h1 h2 hp]), tl1_followed, seq_nx (ρ' := [.d (.tuple (ms.map .int)), .d (.int p), .d (.int b)]) (by simp [fnM0, fnM, sSeq, sIf, sRet, sRetN, sSet, sNil, sDrop, sPar, sPar3, sPar4, sUnp, sApp, sExt, sPut, sFrz, own, frz, nD, nO, nLst, e1, e2, nm, bnm, cst, bv, chE, andT, orT, notT, andV, orV, notV, ifE, cons', tupE, lstE, asB, M.call, ncall, lcall, flatR, flatD, Out.r, Out.s, R.bind, R.of, R.out, pickF, bName, bTup, bNames, itE, items, sFor, lcD, sBad, yes, m_whole, hb])]
  simp [tl2_followed, fnM0, fnM, sSeq, sIf, sRet, sRetN, sSet, sNil, sDrop, sPar, sPar3, sPar4, sUnp, sApp, sExt, sPut, sFrz, own, frz, nD, nO, nLst, e1, e2, nm, bnm, cst, bv, chE, andT, orT, notT, andV, orV, notV, ifE, cons', tupE, lstE, asB, M.call, ncall, lcall, flatR, flatD, Out.r, Out.s, R.bind, R.of, R.out, pickF, bName, bTup, bNames, itE, items, sFor, lcD, sBad, yes, m_goT (show ms.length < 1000000 by omega)]
end G
namespace G
open M PySem
def lostL : Nat → Int → List Int → List Int → List Int
  | k, a, m :: ms, g :: gs => if m ≠ 0 ∧ g = a then (k : Int) :: lostL (k + 1) g ms gs else lostL (k + 1) g ms gs
  | _, _, _, _ => []
theorem lostL_len : ∀ (ms gs : List Int) (k : Nat) (a : Int), (lostL k a ms gs).length ≤ ms.length
  | [], _, _, _ => by simp [lostL]
  | _ :: _, [], _, _ => by simp [lostL]
  | m :: ms, g :: gs, k, a => by
    have := lostL_len ms gs (k + 1) g
    unfold lostL
    split <;> simp <;> omega
/-- by places -/
theorem lost_range : ∀ (ms gs : List Int) (a : Int) (k : Nat), gs.length = ms.length → lostL k a ms gs = ((List.range ms.length).filter fun i => decide (ms[i]? ≠ some 0) && decide ((a :: gs)[i]? = gs[i]?)).map fun (i : Nat) => ((i + k : Nat) : Int)
  | [], gs, a, k, h => by simp [lostL]
  | m :: ms, [], a, k, h => by simp at h
  | m :: ms, g :: gs, a, k, h => by
    have ih := lost_range ms gs g (k + 1) (by simpa using h)
    have hr : List.range (m :: ms).length = 0 :: (List.range ms.length).map (· + 1) := by rw [List.length_cons, List.range_succ_eq_map]
    rw [hr, List.filter_cons]
    have ht : ((List.range ms.length).map (· + 1)).filter (fun i => decide ((m :: ms)[i]? ≠ some 0) && decide ((a :: g :: gs)[i]? = (g :: gs)[i]?)) = ((List.range ms.length).filter fun i => decide (ms[i]? ≠ some 0) && decide ((g :: gs)[i]? = gs[i]?)).map (· + 1) := by
      rw [List.filter_map]
      congr 1
    rw [ht]
    have hm : (((List.range ms.length).filter fun i => decide (ms[i]? ≠ some 0) && decide ((g :: gs)[i]? = gs[i]?)).map (· + 1)).map (fun (i : Nat) => ((i + k : Nat) : Int)) = lostL (k + 1) g ms gs := by
      rw [ih, List.map_map]
      congr 1
      funext i
      simp
      omega
    unfold lostL
    by_cases c : m ≠ 0 ∧ g = a
    · rw [if_pos c]
      have : (decide ((m :: ms)[0]? ≠ some 0) && decide ((a :: g :: gs)[0]? = (g :: gs)[0]?)) = true := by simp [c.1, c.2]
      rw [if_pos this, List.map_cons, hm]
      simp
    · rw [if_neg c]
      have : ¬ (decide ((m :: ms)[0]? ≠ some 0) && decide ((a :: g :: gs)[0]? = (g :: gs)[0]?)) = true := by
        simp
        intro h1 h2
        exact c ⟨h1, h2.symm⟩
      rw [if_neg this, hm]
theorem at_nat (xs : List Int) (i : Nat) : ixD (.list (xs.map .int)) (.int (i : Nat)) = (xs[i]?).map .int := by
  simp only [ixD, L2.atI, L2.ixN, List.length_map]
  by_cases h : i < xs.length
  · rw [if_pos (by omega), if_pos (by omega)]
    simp
  · rw [if_pos (by omega), if_neg (by omega), List.getElem?_eq_none (by omega)]
    rfl
theorem m_lost {ms : List Int} {p b : Int} (h1 : ms.length ≤ 40) (h2 : ∀ m ∈ ms, -99 ≤ m ∧ m ≤ 99) (hp : 0 ≤ p ∧ p ≤ 9) (hb : 0 ≤ b ∧ b ≤ p) : m_lost_moves [.list (ms.map .int), .int p, .int b] = .rf ((lostL 0 0 ms (go p b 0 ms)).map .int) := by
  have hl := go_len p ms b 0
  refine fn_rf rfl ?_
  have hc : (1 : Nat) + (go p b 0 ms).length ≤ 1000000 := by omega
  rw [tl0_lost_moves, seq_nx (ρ' := [.d (.list (ms.map .int)), .d (.int p), .d (.int b), .d (.list (((0 : Int) :: go p b 0 ms).map .int)), .no]) (by simp [fnM0, fnM, sSeq, sIf, sRet, sRetN, sSet, sNil, sDrop, sPar, sPar3, sPar4, sUnp, sApp, sExt, sPut, sFrz, own, frz, nD, nO, nLst, e1, e2, nm, bnm, cst, bv, chE, andT, orT, notT, andV, orV, notV, ifE, cons', tupE, lstE, asB, M.call, ncall, lcall, flatR, flatD, Out.r, Out.s, R.bind, R.of, R.out, pickF, bName, bTup, bNames, itE, items, sFor, lcD, sBad, yes, m_foll h1 h2 hp hb, addD, hc])]
  have key : lcL (bName 4) ct1_lost_moves (nm 4) [.d (.list (ms.map .int)), .d (.int p), .d (.int b), .d (.list (((0 : Int) :: go p b 0 ms).map .int)), .no] (rng 0 ms.length) = some ((lostL 0 0 ms (go p b 0 ms)).map .int) := by
    rw [lost_range ms _ 0 0 hl, rng, lcL_map (d := fun (i : Nat) => PyData.int (0 + (i : Int))) (β := fun i => [.d (.list (ms.map .int)), .d (.int p), .d (.int b), .d (.list (((0 : Int) :: go p b 0 ms).map .int)), .d (.int (i : Nat))]) (T := fun i => decide (ms[i]? ≠ some 0) && decide (((0 : Int) :: go p b 0 ms)[i]? = (go p b 0 ms)[i]?)) (F := fun i => .int (i : Nat))]
    · simp [List.map_map, Function.comp_def]
    · intro i hi
      have hi' : i < ms.length := List.mem_range.mp hi
      have hg : i < (go p b 0 ms).length := by omega
      have a1 := at_nat ms i
      have a2 := at_nat ((0 : Int) :: go p b 0 ms) i
      have a3 := at_nat ((0 : Int) :: go p b 0 ms) (i + 1)
      have hc1 : i < ((0 : Int) :: go p b 0 ms).length := by simp; omega
      rw [List.getElem?_eq_getElem hi'] at a1
      rw [List.getElem?_eq_getElem hc1] at a2
      rw [List.getElem?_cons_succ, List.getElem?_eq_getElem hg] at a3
      have hcast : ((i + 1 : Nat) : Int) = (i : Int) + 1 := by omega
      rw [hcast] at a3
      refine ⟨by simp [bName], ?_, fun _ => rfl⟩
      rw [List.getElem?_eq_getElem hi', List.getElem?_eq_getElem hg, List.getElem?_eq_getElem hc1]
      simp only [ct1_lost_moves, andT, e2, bnm, cst, List.getElem?_cons_zero, List.getElem?_cons_succ, R.bind, a1, a2, a3, R.of, Option.map_some, neD_int, eqD_int, addD, Option.some.injEq]
      by_cases c : ms[i] = 0 <;> simp [c]
  have h3 : (rng 0 ms.length).length ≤ 1000000 := by simp [rng]; omega
  have c1 : -1000000000 ≤ (ms.length : Int) ∧ (ms.length : Int) ≤ 1000000000 := by omega
  simp only [tl1_lost_moves, sRetN, nO, lcE, rg1, e1, cons', bnm, cst, R.bind, R.of, lenD_list, List.length_map, List.getElem?_cons_zero, List.getElem?_cons_succ, c1, and_self, if_true, wip, List.set, R.out, Int.toNat_natCast, h3, key]
end G
namespace G
open M PySem
section
variable {ar n i j k : Nat} {f g m : Str} {body e1' : Rho → Om → OutS} {ds : List D} {ω ω' : Om} {x y : D} {ρ ρ' : Rho} {s : Ob} {xs : List D}
theorem fnO_rt (h1 : ds.length = ar) (h : body (ds.map .d ++ List.replicate (n - ds.length) .no) ω = .rt x ω') : fnMO0 ar n body ds ω = .rt x ω' := by
  unfold fnMO0 fnMO
  rw [if_pos h1, h]
theorem fnO_nx (h1 : ds.length = ar) (h : body (ds.map .d ++ List.replicate (n - ds.length) .no) ω = .nx ρ' ω') : fnMO0 ar n body ds ω = .rt .none ω' := by
  unfold fnMO0 fnMO
  rw [if_pos h1, h]
theorem oseq_nx {f g : Rho → Om → OutS} (h : f ρ ω = .nx ρ' ω') : oSeq f g ρ ω = g ρ' ω' := by unfold oSeq; rw [h]
theorem oseq_rt {f g : Rho → Om → OutS} (h : f ρ ω = .rt x ω') : oSeq f g ρ ω = .rt x ω' := by unfold oSeq; rw [h]
theorem objN_OBJ (j : Nat) : objN (OBJ j) = some j := rfl
theorem obS0 (h1 : ρ[i]? = some (.d (OBJ j))) (h2 : ω[j]? = some s) : obS i ρ ω = some (j, s) := by
  simp [obS, obAt, h1, objN_OBJ, h2]
theorem set_at (h : ω[j]? = some s) (s' : Ob) : (ω.set j s')[j]? = some s' := by
  have hj : j < ω.length := (List.getElem?_eq_some_iff.mp h).1
  simp [hj]
theorem lfS_nx {f : Rho → Out} (h : f ρ = .nx ρ') : lfS f ρ ω = .nx ρ' ω := by simp [lfS, h]
theorem lfS_rt {f : Rho → Out} (h : f ρ = .rt x) : lfS f ρ ω = .rt x ω := by simp [lfS, h]
theorem lf_ok {α : Type} {f : Rho → R α} {x : α} (h : f ρ = .ok x) : lf f ρ ω = .ok x ω := by simp [lf, h]
theorem s_fldN (h : obS i ρ ω = some (j, s)) (hl : s.length < 1000) : oFldN i f ρ ω = .nx ρ (ω.set j (putFl f (.o []) s)) := by simp [oFldN, h, hl]
theorem s_fld {e : Rho → Om → RX D} (he : e ρ ω = .ok x ω) (h : obS i ρ ω = some (j, s)) (hl : s.length < 1000) : oFld i f e ρ ω = .nx ρ (ω.set j (putFl f (.d x) s)) := by simp [oFld, he, RX.out, h, hl]
theorem s_app2 (h : obS i ρ ω = some (j, s)) (h1 : s.lookup f = some (.o xs)) (h2 : s.lookup g = some (.d y)) (h3 : ρ[k]? = some (.d x)) (hl : xs.length < 1000000) : oApp2 i f k g ρ ω = .nx ρ (ω.set j (putFl f (.o (xs ++ [.tuple [x, y]])) s)) := by simp [oApp2, h, h1, h2, h3, hl]
theorem x_fld (h : obS i ρ ω = some (j, s)) (h1 : s.lookup f = some (.d x)) : xfld i f ρ ω = .ok x ω := by simp [xfld, h, h1]
theorem x_pop (h : obS i ρ ω = some (j, s)) (h1 : s.lookup f = some (.o (xs ++ [x]))) : xpop i f ρ ω = .ok x (ω.set j (putFl f (.o xs) s)) := by simp [xpop, h, h1]
theorem x_lenF (h : obS i ρ ω = some (j, s)) (h1 : s.lookup f = some (.o xs)) : xlenF i f ρ ω = .ok (.int xs.length) ω := by simp [xlenF, h, h1]
theorem x_meth {f : FO} {g : Rho → Om → RX (List D)} (h : obS i ρ ω = some (j, s)) (h1 : s.lookup m = none) (h2 : g ρ ω = .ok ds ω') : xmeth i m f g ρ ω = (f (OBJ j :: ds) ω').x := by simp [xmeth, h, h1, h2, RX.bind]
theorem x_meth0 {f : FO} (h : obS i ρ ω = some (j, s)) (h1 : s.lookup m = none) : xmeth i m f xnil ρ ω = (f [OBJ j] ω).x := by simp [xmeth, h, h1, xnil, RX.bind]
theorem x2_ok {α β γ : Type} {o : α → β → Option γ} {f : Rho → Om → RX α} {g : Rho → Om → RX β} {a : α} {b : β} {z : γ} {ω1 ω2 : Om} (h1 : f ρ ω = .ok a ω1) (h2 : g ρ ω1 = .ok b ω2) (h3 : o a b = some z) : x2 o f g ρ ω = .ok z ω2 := by simp [x2, h1, h2, h3, RX.bind, RX.of]
theorem o_ret {e : Rho → Om → RX D} (h : e ρ ω = .ok x ω') : oRet e ρ ω = .rt x ω' := by simp [oRet, h, RX.out]
theorem o_drop {e : Rho → Om → RX D} (h : e ρ ω = .ok x ω') : oDrop e ρ ω = .nx ρ ω' := by simp [oDrop, h, RX.out]
theorem o_set {e : Rho → Om → RX D} (h : e ρ ω = .ok x ω') : oSet i e ρ ω = .nx (ρ.set i (.d x)) ω' := by simp [oSet, h, RX.out]
theorem o_unp {b : D → Rho → Option Rho} {e : Rho → Om → RX D} (h : e ρ ω = .ok x ω') (hb : b x ρ = some ρ') : oUnp b e ρ ω = .nx ρ' ω' := by simp [oUnp, h, RX.out, hb]
theorem o_ifF {t : Rho → Om → RX Bool} {a b : Rho → Om → OutS} (h : t ρ ω = .ok false ω') : oIf t a b ρ ω = b ρ ω' := by simp [oIf, h, RX.out]
theorem o_ifT {t : Rho → Om → RX Bool} {a b : Rho → Om → OutS} (h : t ρ ω = .ok true ω') : oIf t a b ρ ω = a ρ ω' := by simp [oIf, h, RX.out]
theorem xor_F {a b : Rho → Om → RX Bool} {r : RX Bool} (h : a ρ ω = .ok false ω') (h2 : b ρ ω' = r) : xorT a b ρ ω = r := by simp [xorT, h, RX.bind, h2]
theorem x_and {a b : Rho → Om → RX D} {r : RX D} (h : a ρ ω = .ok (.bool true) ω') (h2 : b ρ ω' = r) : xandV a b ρ ω = r := by simp [xandV, h, RX.bind, h2]
theorem x_bv {t : Rho → Om → RX Bool} {b : Bool} (h : t ρ ω = .ok b ω') : xbv t ρ ω = .ok (.bool b) ω' := by simp [xbv, h, RX.bind]
theorem x_cons {a : Rho → Om → RX D} {b : Rho → Om → RX (List D)} {ω1 : Om} (h : a ρ ω = .ok x ω1) (h2 : b ρ ω1 = .ok xs ω') : xcons a b ρ ω = .ok (x :: xs) ω' := by simp [xcons, h, h2, RX.bind]
theorem x_tup {b : Rho → Om → RX (List D)} (h2 : b ρ ω = .ok xs ω') (hl : xs.length ≤ 1000000) : xtup b ρ ω = .ok (.tuple xs) ω' := by simp [xtup, h2, RX.bind, hl]
end
theorem rg1_of {f : Rho → R D} {ρ : Rho} {n : Nat} (h : f ρ = .ok (.int (n : Int))) (hn : n ≤ 1000000) : rg1 f ρ = .ok (rng 0 n) := by
  have c : (-1000000000 : Int) ≤ (n : Int) ∧ (n : Int) ≤ 1000000000 := by omega
  unfold rg1
  rw [h]
  show (if -1000000000 ≤ (n : Int) ∧ (n : Int) ≤ 1000000000 then R.ok (rng 0 (n : Int).toNat) else .bad) = _
  rw [if_pos c, Int.toNat_natCast]
/-- the loop, by an invariant -/
theorem forO_inv {b : D → Rho → Option Rho} {body : Rho → Om → OutS} (I : Nat → Rho → Om → Prop) : ∀ (xs : List D) (i : Nat) (ρ : Rho) (ω : Om), I i ρ ω →
    (∀ (k : Nat) (x : D) (ρ : Rho) (ω : Om), xs[k]? = some x → I (i + k) ρ ω → ∃ ρ1 ρ2 ω2, b x ρ = some ρ1 ∧ body ρ1 ω = .nx ρ2 ω2 ∧ I (i + k + 1) ρ2 ω2) →
    ∃ ρ' ω', forO b body xs ρ ω = .nx ρ' ω' ∧ I (i + xs.length) ρ' ω'
  | [], i, ρ, ω, h, _ => ⟨ρ, ω, rfl, h⟩
  | x :: xs, i, ρ, ω, h, k => by
    obtain ⟨ρ1, ρ2, ω2, e1, e2, h2⟩ := k 0 x ρ ω rfl h
    obtain ⟨ρ3, ω3, e3, h3⟩ := forO_inv I xs (i + 1) ρ2 ω2 h2 fun k' x' ρ' ω' hx hI => by
      have := k (k' + 1) x' ρ' ω' (by simpa using hx) (by rw [show i + (k' + 1) = i + 1 + k' by omega]; exact hI)
      rw [show i + (k' + 1) + 1 = i + 1 + k' + 1 by omega] at this
      exact this
    refine ⟨ρ3, ω3, ?_, ?_⟩
    · rw [forO, e1]
      simp only [e2]
      exact e3
    · rw [show i + (x :: xs).length = i + 1 + xs.length by simp; omega]
      exact h3
end G
namespace G
open M PySem
/-- a knob -/
def kS (lo hi ev : Int) (nw : D) (p la : List D) : Ob := [("own", .d (.tuple [.int lo, .int hi, .int ev])), ("now", .d nw), ("past", .o p), ("later", .o la)]
def nowD (w r : Int) (l : Option Int) (m : Int) : D := .tuple [.int w, .int r, optD l, .int m]
section
variable {lo hi ev w r m : Int} {l : Option Int} {nw x : D} {p la ys : List D} {ω : Om} {j : Nat}
theorem lk_own : (kS lo hi ev nw p la).lookup ("own" : Str) = some (.d (.tuple [.int lo, .int hi, .int ev])) := rfl
theorem lk_now : (kS lo hi ev nw p la).lookup ("now" : Str) = some (.d nw) := rfl
theorem lk_past : (kS lo hi ev nw p la).lookup ("past" : Str) = some (.o p) := rfl
theorem lk_later : (kS lo hi ev nw p la).lookup ("later" : Str) = some (.o la) := rfl
theorem lk_go : (kS lo hi ev nw p la).lookup ("go" : Str) = none := rfl
theorem lk_turn : (kS lo hi ev nw p la).lookup ("turn" : Str) = none := rfl
theorem lk_lay : (kS lo hi ev nw p la).lookup ("lay" : Str) = none := rfl
theorem lk_worth : (kS lo hi ev nw p la).lookup ("worth" : Str) = none := rfl
theorem lk_rest : (kS lo hi ev nw p la).lookup ("rest" : Str) = none := rfl
theorem lk_missed : (kS lo hi ev nw p la).lookup ("missed" : Str) = none := rfl
theorem lk_bounds : (kS lo hi ev nw p la).lookup ("bounds" : Str) = none := rfl
theorem lk_back : (kS lo hi ev nw p la).lookup ("back" : Str) = none := rfl
theorem lk_forth : (kS lo hi ev nw p la).lookup ("forth" : Str) = none := rfl
theorem lk_ahead : (kS lo hi ev nw p la).lookup ("ahead" : Str) = none := rfl
theorem lk_twin : (kS lo hi ev nw p la).lookup ("twin" : Str) = none := rfl
theorem pf_now : putFl "now" (.d x) (kS lo hi ev nw p la) = kS lo hi ev x p la := rfl
theorem pf_past : putFl "past" (.o ys) (kS lo hi ev nw p la) = kS lo hi ev nw ys la := rfl
theorem pf_later : putFl "later" (.o ys) (kS lo hi ev nw p la) = kS lo hi ev nw p ys := rfl
theorem k_len : (kS lo hi ev nw p la).length = 4 := rfl
theorem k_go {wd : Str} {x : D} {xs : List D} (h : ω[j]? = some (kS lo hi ev nw p la)) (hp : p.length < 1000000) : mo_Knob_go [OBJ j, .str wd, .tuple (x :: xs)] ω = .rt x (ω.set j (kS lo hi ev (.tuple (x :: xs)) (p ++ [.tuple [.str wd, nw]]) [])) := by
  refine fnO_rt rfl ?_
  show tl0_o_Knob_go [.d (OBJ j), .d (.str wd), .d (.tuple (x :: xs))] ω = _
  rw [tl0_o_Knob_go, oseq_nx (s_app2 (obS0 rfl h) lk_past lk_now rfl hp), pf_past]
  rw [tl1_o_Knob_go, oseq_nx (s_fldN (obS0 rfl (set_at h _)) (by rw [k_len]; decide)), pf_later]
  rw [tl2_o_Knob_go, oseq_nx (s_fld (lf_ok rfl) (obS0 rfl (set_at (set_at h _) _)) (by rw [k_len]; decide)), pf_now, List.set_set, List.set_set]
  rw [tl3_o_Knob_go, lfS_rt (x := x)]
  simp [sRet, e2, bnm, cst, R.bind, R.of, R.out, ixD, L2.atI, L2.ixN]
theorem k_goN {wd : Str} {a b d : Int} {cc : Option Int} (h : ω[j]? = some (kS lo hi ev nw p la)) (hp : p.length < 1000000) : mo_Knob_go [OBJ j, .str wd, nowD a b cc d] ω = .rt (.int a) (ω.set j (kS lo hi ev (nowD a b cc d) (p ++ [.tuple [.str wd, nw]]) [])) := k_go h hp
theorem ix0 {x : D} {xs : List D} : ixD (.tuple (x :: xs)) (.int 0) = some x := by simp [ixD, L2.atI, L2.ixN]
theorem ix1 {x y : D} {xs : List D} : ixD (.tuple (x :: y :: xs)) (.int 1) = some y := by
  simp [ixD, L2.atI, L2.ixN]
  rw [if_pos (by omega)]
  rfl
end
def mn (a b : Int) : Int := if b < a then b else a
def mx (a b : Int) : Int := if b > a then b else a
def stO : Option Int → Int → Option Int
  | none, _ => some 0
  | some x, s => st x s
/-- what a turn makes of worth, rest, missed -/
def turnF (lo hi ev w r : Int) (l : Option Int) (m s : Int) : Int × Int × Int := match stO l s with
  | none => (w, 0, m + 1)
  | some b => if r + b = ev then (mn hi (w + 1), 0, m) else if r + b = -ev then (mx lo (w - 1), 0, m) else (w, r + b, m)
section
variable {lo hi ev w r m : Int} {l : Option Int} {nw x : D} {p la ys : List D} {ω : Om} {j : Nat}
theorem eqI (a b : Int) : eqD (.int a) (.int b) = some (decide (a = b)) := by
  have := eqD_opt (some a) (some b)
  simpa [optD] using this
end
end G
namespace G
open M PySem
def enD (wd : Str) (q : D) : D := .tuple [.str wd, q]
def IsN (q : D) : Prop := ∃ a b c d, q = nowD a b c d
def IsE (e : D) : Prop := ∃ wd q, (wd = ("turn" : Str) ∨ wd = ("lay" : Str)) ∧ IsN q ∧ e = enD wd q
theorem lay_ent {e : D} (h : IsE e) : e.canLay0 = true ∧ e.depth = 2 := by
  obtain ⟨wd, q, hw, ⟨a, b, c, d, rfl⟩, rfl⟩ := h
  have h1 : PyData.strOk ("turn" : Str) = true := by decide +kernel
  have h2 : PyData.strOk ("lay" : Str) = true := by decide +kernel
  rcases hw with rfl | rfl <;> cases c <;> simp [enD, nowD, optD, PyData.canLay0, PyData.canLayAll0, PyData.depth, PyData.depthAll, h1, h2]
theorem lay_ents : ∀ {es : List D}, (∀ e ∈ es, IsE e) → PyData.canLayAll0 es = true ∧ PyData.depthAll es ≤ 2
  | [], _ => by simp [PyData.canLayAll0, PyData.depthAll]
  | e :: es, h => by
    have h1 := lay_ent (h e (by simp))
    have h2 := lay_ents (es := es) fun e' he => h e' (by simp [he])
    simp [PyData.canLayAll0, PyData.depthAll, h1.1, h1.2, h2.1, h2.2]
theorem shaped_ents {es : List D} (h : ∀ e ∈ es, IsE e) : SeqAt.shaped (.list es) = true := by
  have := lay_ents h
  simp [SeqAt.shaped, PyData.canLay0, PyData.depth, this.1]
  omega
end G
namespace G
open M PySem
section
variable {lo hi ev w r m : Int} {l : Option Int} {nw x : D} {p la ys : List D} {ω : Om} {j : Nat}
theorem k_worth (h : ω[j]? = some (kS lo hi ev (nowD w r l m) p la)) : mo_Knob_worth [OBJ j] ω = .rt (.int w) ω := by
  refine fnO_rt rfl ?_
  exact o_ret (x2_ok (x_fld (obS0 rfl h) lk_now) (lf_ok rfl) ix0)
end
end G
namespace G
open M PySem
section
variable {lo hi ev w r m : Int} {l : Option Int} {nw x : D} {p la ys : List D} {ω : Om} {j : Nat}
theorem k_turn {s : Int} (hs : 0 ≤ s ∧ s ≤ 3) (hl : ∀ x, l = some x → 0 ≤ x ∧ x ≤ 3) (he : 1 ≤ ev) (hp : p.length < 1000000) (h : ω[j]? = some (kS lo hi ev (nowD w r l m) p la)) :
    mo_Knob_turn [OBJ j, .int s] ω = .rt (.int (turnF lo hi ev w r l m s).1) (ω.set j (kS lo hi ev (nowD (turnF lo hi ev w r l m s).1 (turnF lo hi ev w r l m s).2.1 (some s) (turnF lo hi ev w r l m s).2.2) (p ++ [.tuple [.str "turn", nowD w r l m]]) [])) := by
  refine fnO_rt rfl ?_
  show tl0_o_Knob_turn [.d (OBJ j), .d (.int s), .no, .no, .no, .no, .no, .no, .no, .no] ω = _
  rw [tl0_o_Knob_turn, oseq_nx (lfS_nx (ρ' := [.d (OBJ j), .d (.int s), .no, .no, .no, .no, .no, .no, .no, .no]) (by simp [fnM0, fnM, sSeq, sIf, sRet, sRetN, sSet, sNil, sDrop, sPar, sPar3, sPar4, sUnp, sApp, sExt, sPut, sFrz, own, frz, nD, nO, nLst, e1, e2, nm, bnm, cst, bv, chE, andT, orT, notT, andV, orV, notV, ifE, cons', tupE, lstE, asB, M.call, ncall, lcall, flatR, flatD, Out.r, Out.s, R.bind, R.of, R.out, pickF, bName, bTup, bNames, itE, items, sFor, lcD, sBad, yes, m_sample hs]))]
  rw [tl1_o_Knob_turn, oseq_nx (o_unp (x_fld (obS0 rfl h) lk_now) (ρ' := [.d (OBJ j), .d (.int s), .no, .d (.int r), .d (.int w), .d (optD l), .d (.int m), .no, .no, .no]) rfl)]
  rw [tl2_o_Knob_turn, oseq_nx (o_unp (x_fld (obS0 rfl h) lk_own) (ρ' := [.d (OBJ j), .d (.int s), .no, .d (.int r), .d (.int w), .d (optD l), .d (.int m), .d (.int lo), .d (.int hi), .d (.int ev)]) rfl)]
  have hby : ∃ by', by' = stO l s ∧ (sSet 2 (nD (ifE (e2 isntD (bnm 5) (cst .none)) (call m_step_between (cons' (nm 5) (cons' (nm 1) (cst [])))) (cst (.int 0))))) [.d (OBJ j), .d (.int s), .no, .d (.int r), .d (.int w), .d (optD l), .d (.int m), .d (.int lo), .d (.int hi), .d (.int ev)] = .nx [.d (OBJ j), .d (.int s), .d (optD by'), .d (.int r), .d (.int w), .d (optD l), .d (.int m), .d (.int lo), .d (.int hi), .d (.int ev)] := by
    cases l with
    | none => exact ⟨_, rfl, by simp [fnM0, fnM, sSeq, sIf, sRet, sRetN, sSet, sNil, sDrop, sPar, sPar3, sPar4, sUnp, sApp, sExt, sPut, sFrz, own, frz, nD, nO, nLst, e1, e2, nm, bnm, cst, bv, chE, andT, orT, notT, andV, orV, notV, ifE, cons', tupE, lstE, asB, M.call, ncall, lcall, flatR, flatD, Out.r, Out.s, R.bind, R.of, R.out, pickF, bName, bTup, bNames, itE, items, sFor, lcD, sBad, yes, addD, subD, mulD, fdivD, modD, negD, ltD, leD, gtD, geD, isD, isntD, isNone, lenD, absD, maxD, minD, M.intD, listD, tupleD, isiE, isiTE, isi, isDict, allD, anyD, sumD, optD, stO]⟩
    | some x => exact ⟨_, rfl, by simp [fnM0, fnM, sSeq, sIf, sRet, sRetN, sSet, sNil, sDrop, sPar, sPar3, sPar4, sUnp, sApp, sExt, sPut, sFrz, own, frz, nD, nO, nLst, e1, e2, nm, bnm, cst, bv, chE, andT, orT, notT, andV, orV, notV, ifE, cons', tupE, lstE, asB, M.call, ncall, lcall, flatR, flatD, Out.r, Out.s, R.bind, R.of, R.out, pickF, bName, bTup, bNames, itE, items, sFor, lcD, sBad, yes, addD, subD, mulD, fdivD, modD, negD, ltD, leD, gtD, geD, isD, isntD, isNone, lenD, absD, maxD, minD, M.intD, listD, tupleD, isiE, isiTE, isi, isDict, allD, anyD, sumD, optD, stO, m_step (hl x rfl) hs]⟩
  obtain ⟨by', eb, hb⟩ := hby
  rw [tl3_o_Knob_turn, oseq_nx (lfS_nx hb)]
  unfold turnF
  rw [← eb]
  cases by' with
  | none =>
    rw [tl4_o_Knob_turn, oseq_rt (x := .int w) (ω' := ω.set j (kS lo hi ev (nowD w 0 (some s) (m + 1)) (p ++ [.tuple [.str "turn", nowD w r l m]]) []))]
    rw [o_ifT (lf_ok (by simp [fnM0, fnM, sSeq, sIf, sRet, sRetN, sSet, sNil, sDrop, sPar, sPar3, sPar4, sUnp, sApp, sExt, sPut, sFrz, own, frz, nD, nO, nLst, e1, e2, nm, bnm, cst, bv, chE, andT, orT, notT, andV, orV, notV, ifE, cons', tupE, lstE, asB, M.call, ncall, lcall, flatR, flatD, Out.r, Out.s, R.bind, R.of, R.out, pickF, bName, bTup, bNames, itE, items, sFor, lcD, sBad, yes, addD, subD, mulD, fdivD, modD, negD, ltD, leD, gtD, geD, isD, isntD, isNone, lenD, absD, maxD, minD, M.intD, listD, tupleD, isiE, isiTE, isi, isDict, allD, anyD, sumD, optD]))]
    refine o_ret ?_
    rw [x_meth (obS0 rfl h) lk_go (lf_ok (x := [.str "turn", nowD w 0 (some s) (m + 1)]) (by simp [fnM0, fnM, sSeq, sIf, sRet, sRetN, sSet, sNil, sDrop, sPar, sPar3, sPar4, sUnp, sApp, sExt, sPut, sFrz, own, frz, nD, nO, nLst, e1, e2, nm, bnm, cst, bv, chE, andT, orT, notT, andV, orV, notV, ifE, cons', tupE, lstE, asB, M.call, ncall, lcall, flatR, flatD, Out.r, Out.s, R.bind, R.of, R.out, pickF, bName, bTup, bNames, itE, items, sFor, lcD, sBad, yes, addD, subD, mulD, fdivD, modD, negD, ltD, leD, gtD, geD, isD, isntD, isNone, lenD, absD, maxD, minD, M.intD, listD, tupleD, isiE, isiTE, isi, isDict, allD, anyD, sumD, nowD, optD])), k_goN h hp]
    rfl
  | some b =>
    rw [tl4_o_Knob_turn, oseq_nx (ρ' := [.d (OBJ j), .d (.int s), .d (.int b), .d (.int r), .d (.int w), .d (optD l), .d (.int m), .d (.int lo), .d (.int hi), .d (.int ev)]) (ω' := ω) (by rw [o_ifF (lf_ok (by simp [fnM0, fnM, sSeq, sIf, sRet, sRetN, sSet, sNil, sDrop, sPar, sPar3, sPar4, sUnp, sApp, sExt, sPut, sFrz, own, frz, nD, nO, nLst, e1, e2, nm, bnm, cst, bv, chE, andT, orT, notT, andV, orV, notV, ifE, cons', tupE, lstE, asB, M.call, ncall, lcall, flatR, flatD, Out.r, Out.s, R.bind, R.of, R.out, pickF, bName, bTup, bNames, itE, items, sFor, lcD, sBad, yes, addD, subD, mulD, fdivD, modD, negD, ltD, leD, gtD, geD, isD, isntD, isNone, lenD, absD, maxD, minD, M.intD, listD, tupleD, isiE, isiTE, isi, isDict, allD, anyD, sumD, optD]))]; rfl)]
    rw [tl5_o_Knob_turn, oseq_nx (lfS_nx (ρ' := [.d (OBJ j), .d (.int s), .d (.int b), .d (.int (r + b)), .d (.int w), .d (optD l), .d (.int m), .d (.int lo), .d (.int hi), .d (.int ev)]) (by simp [fnM0, fnM, sSeq, sIf, sRet, sRetN, sSet, sNil, sDrop, sPar, sPar3, sPar4, sUnp, sApp, sExt, sPut, sFrz, own, frz, nD, nO, nLst, e1, e2, nm, bnm, cst, bv, chE, andT, orT, notT, andV, orV, notV, ifE, cons', tupE, lstE, asB, M.call, ncall, lcall, flatR, flatD, Out.r, Out.s, R.bind, R.of, R.out, pickF, bName, bTup, bNames, itE, items, sFor, lcD, sBad, yes, addD, subD, mulD, fdivD, modD, negD, ltD, leD, gtD, geD, isD, isntD, isNone, lenD, absD, maxD, minD, M.intD, listD, tupleD, isiE, isiTE, isi, isDict, allD, anyD, sumD]))]
    have fin : ∀ w' r' : Int, tl8_o_Knob_turn [.d (OBJ j), .d (.int s), .d (.int b), .d (.int r'), .d (.int w'), .d (optD l), .d (.int m), .d (.int lo), .d (.int hi), .d (.int ev)] ω = .rt (.int w') (ω.set j (kS lo hi ev (nowD w' r' (some s) m) (p ++ [.tuple [.str "turn", nowD w r l m]]) [])) := fun w' r' => by
      refine o_ret ?_
      rw [x_meth (obS0 rfl h) lk_go (lf_ok (x := [.str "turn", nowD w' r' (some s) m]) (by simp [fnM0, fnM, sSeq, sIf, sRet, sRetN, sSet, sNil, sDrop, sPar, sPar3, sPar4, sUnp, sApp, sExt, sPut, sFrz, own, frz, nD, nO, nLst, e1, e2, nm, bnm, cst, bv, chE, andT, orT, notT, andV, orV, notV, ifE, cons', tupE, lstE, asB, M.call, ncall, lcall, flatR, flatD, Out.r, Out.s, R.bind, R.of, R.out, pickF, bName, bTup, bNames, itE, items, sFor, lcD, sBad, yes, addD, subD, mulD, fdivD, modD, negD, ltD, leD, gtD, geD, isD, isntD, isNone, lenD, absD, maxD, minD, M.intD, listD, tupleD, isiE, isiTE, isi, isDict, allD, anyD, sumD, nowD, optD])), k_goN h hp]
      rfl
    dsimp only
    have hev : ¬ (0 : Int) = -ev := by omega
    by_cases c1 : r + b = ev
    · rw [if_pos c1]
      rw [tl6_o_Knob_turn, oseq_nx (lfS_nx (ρ' := [.d (OBJ j), .d (.int s), .d (.int b), .d (.int 0), .d (.int (mn hi (w + 1))), .d (optD l), .d (.int m), .d (.int lo), .d (.int hi), .d (.int ev)]) (by simp [fnM0, fnM, sSeq, sIf, sRet, sRetN, sSet, sNil, sDrop, sPar, sPar3, sPar4, sUnp, sApp, sExt, sPut, sFrz, own, frz, nD, nO, nLst, e1, e2, nm, bnm, cst, bv, chE, andT, orT, notT, andV, orV, notV, ifE, cons', tupE, lstE, asB, M.call, ncall, lcall, flatR, flatD, Out.r, Out.s, R.bind, R.of, R.out, pickF, bName, bTup, bNames, itE, items, sFor, lcD, sBad, yes, addD, subD, mulD, fdivD, modD, negD, ltD, leD, gtD, geD, isD, isntD, isNone, lenD, absD, maxD, minD, M.intD, listD, tupleD, isiE, isiTE, isi, isDict, allD, anyD, sumD, eqI, c1, mn]))]
      rw [tl7_o_Knob_turn, oseq_nx (lfS_nx (ρ' := [.d (OBJ j), .d (.int s), .d (.int b), .d (.int 0), .d (.int (mn hi (w + 1))), .d (optD l), .d (.int m), .d (.int lo), .d (.int hi), .d (.int ev)]) (by simp [fnM0, fnM, sSeq, sIf, sRet, sRetN, sSet, sNil, sDrop, sPar, sPar3, sPar4, sUnp, sApp, sExt, sPut, sFrz, own, frz, nD, nO, nLst, e1, e2, nm, bnm, cst, bv, chE, andT, orT, notT, andV, orV, notV, ifE, cons', tupE, lstE, asB, M.call, ncall, lcall, flatR, flatD, Out.r, Out.s, R.bind, R.of, R.out, pickF, bName, bTup, bNames, itE, items, sFor, lcD, sBad, yes, addD, subD, mulD, fdivD, modD, negD, ltD, leD, gtD, geD, isD, isntD, isNone, lenD, absD, maxD, minD, M.intD, listD, tupleD, isiE, isiTE, isi, isDict, allD, anyD, sumD, eqI, hev]))]
      exact fin _ _
    · rw [if_neg c1]
      rw [tl6_o_Knob_turn, oseq_nx (lfS_nx (ρ' := [.d (OBJ j), .d (.int s), .d (.int b), .d (.int (r + b)), .d (.int w), .d (optD l), .d (.int m), .d (.int lo), .d (.int hi), .d (.int ev)]) (by simp [fnM0, fnM, sSeq, sIf, sRet, sRetN, sSet, sNil, sDrop, sPar, sPar3, sPar4, sUnp, sApp, sExt, sPut, sFrz, own, frz, nD, nO, nLst, e1, e2, nm, bnm, cst, bv, chE, andT, orT, notT, andV, orV, notV, ifE, cons', tupE, lstE, asB, M.call, ncall, lcall, flatR, flatD, Out.r, Out.s, R.bind, R.of, R.out, pickF, bName, bTup, bNames, itE, items, sFor, lcD, sBad, yes, addD, subD, mulD, fdivD, modD, negD, ltD, leD, gtD, geD, isD, isntD, isNone, lenD, absD, maxD, minD, M.intD, listD, tupleD, isiE, isiTE, isi, isDict, allD, anyD, sumD, eqI, c1]))]
      by_cases c2 : r + b = -ev
      · rw [if_pos c2]
        rw [tl7_o_Knob_turn, oseq_nx (lfS_nx (ρ' := [.d (OBJ j), .d (.int s), .d (.int b), .d (.int 0), .d (.int (mx lo (w - 1))), .d (optD l), .d (.int m), .d (.int lo), .d (.int hi), .d (.int ev)]) (by simp [fnM0, fnM, sSeq, sIf, sRet, sRetN, sSet, sNil, sDrop, sPar, sPar3, sPar4, sUnp, sApp, sExt, sPut, sFrz, own, frz, nD, nO, nLst, e1, e2, nm, bnm, cst, bv, chE, andT, orT, notT, andV, orV, notV, ifE, cons', tupE, lstE, asB, M.call, ncall, lcall, flatR, flatD, Out.r, Out.s, R.bind, R.of, R.out, pickF, bName, bTup, bNames, itE, items, sFor, lcD, sBad, yes, addD, subD, mulD, fdivD, modD, negD, ltD, leD, gtD, geD, isD, isntD, isNone, lenD, absD, maxD, minD, M.intD, listD, tupleD, isiE, isiTE, isi, isDict, allD, anyD, sumD, eqI, c2, mx]))]
        exact fin _ _
      · rw [if_neg c2]
        rw [tl7_o_Knob_turn, oseq_nx (lfS_nx (ρ' := [.d (OBJ j), .d (.int s), .d (.int b), .d (.int (r + b)), .d (.int w), .d (optD l), .d (.int m), .d (.int lo), .d (.int hi), .d (.int ev)]) (by simp [fnM0, fnM, sSeq, sIf, sRet, sRetN, sSet, sNil, sDrop, sPar, sPar3, sPar4, sUnp, sApp, sExt, sPut, sFrz, own, frz, nD, nO, nLst, e1, e2, nm, bnm, cst, bv, chE, andT, orT, notT, andV, orV, notV, ifE, cons', tupE, lstE, asB, M.call, ncall, lcall, flatR, flatD, Out.r, Out.s, R.bind, R.of, R.out, pickF, bName, bTup, bNames, itE, items, sFor, lcD, sBad, yes, addD, subD, mulD, fdivD, modD, negD, ltD, leD, gtD, geD, isD, isntD, isNone, lenD, absD, maxD, minD, M.intD, listD, tupleD, isiE, isiTE, isi, isDict, allD, anyD, sumD, eqI, c2]))]
        exact fin _ _
end
end G
namespace G
open M PySem
section
variable {lo hi ev w r m : Int} {l : Option Int} {nw x : D} {p la ys : List D} {ω : Om} {j : Nat}
theorem k_lay {n : Int} (hn : lo ≤ n ∧ n ≤ hi) (hp : p.length < 1000000) (h : ω[j]? = some (kS lo hi ev (nowD w r l m) p la)) :
    mo_Knob_lay [OBJ j, .int n] ω = .rt (.int w) (ω.set j (kS lo hi ev (nowD n 0 l m) (p ++ [.tuple [.str "lay", nowD w r l m]]) [])) := by
  refine fnO_rt rfl ?_
  show tl0_o_Knob_lay [.d (OBJ j), .d (.int n), .no, .no, .no, .no] ω = _
  rw [tl0_o_Knob_lay, oseq_nx (o_unp (x_fld (obS0 rfl h) lk_own) (ρ' := [.d (OBJ j), .d (.int n), .no, .d (.int lo), .d (.int hi), .d (.int ev)]) rfl)]
  rw [tl1_o_Knob_lay, oseq_nx (lfS_nx (ρ' := [.d (OBJ j), .d (.int n), .no, .d (.int lo), .d (.int hi), .d (.int ev)]) (by simp [fnM0, fnM, sSeq, sIf, sRet, sRetN, sSet, sNil, sDrop, sPar, sPar3, sPar4, sUnp, sApp, sExt, sPut, sFrz, own, frz, nD, nO, nLst, e1, e2, nm, bnm, cst, bv, chE, andT, orT, notT, andV, orV, notV, ifE, cons', tupE, lstE, asB, M.call, ncall, lcall, flatR, flatD, Out.r, Out.s, R.bind, R.of, R.out, pickF, bName, bTup, bNames, itE, items, sFor, lcD, sBad, yes, m_whole, hn]))]
  have hw : oSet 2 (x2 ixD (xfld 0 "now") (lf (cst (.int 0)))) [.d (OBJ j), .d (.int n), .no, .d (.int lo), .d (.int hi), .d (.int ev)] ω = .nx [.d (OBJ j), .d (.int n), .d (.int w), .d (.int lo), .d (.int hi), .d (.int ev)] ω := o_set (x2_ok (x_fld (obS0 rfl h) lk_now) (lf_ok rfl) ix0)
  rw [tl2_o_Knob_lay, oseq_nx hw]
  rw [tl3_o_Knob_lay, oseq_nx (o_drop (x := .int n) (ω' := ω.set j (kS lo hi ev (nowD n 0 l m) (p ++ [.tuple [.str "lay", nowD w r l m]]) [])) ?_)]
  · rfl
  · rw [x_meth (obS0 rfl h) lk_go (ω' := ω) (ds := [.str "lay", nowD n 0 l m])]
    · rw [k_goN h hp]
      rfl
    · exact x_cons (lf_ok rfl) (x_cons (x_tup (x_cons (lf_ok rfl) (x_cons (lf_ok rfl) (x_cons (x2_ok (x_fld (obS0 rfl h) lk_now) (lf_ok rfl) (by simp [nowD, ixD, L2.atI, L2.ixN])) (x_cons (x2_ok (x_fld (obS0 rfl h) lk_now) (lf_ok rfl) (by simp [nowD, ixD, L2.atI, L2.ixN])) rfl)))) (by show 4 ≤ 1000000; decide)) rfl)
end
end G
namespace G
open M PySem
section
variable {lo hi ev w r m : Int} {l : Option Int} {nw x : D} {p la ys : List D} {ω : Om} {j : Nat}
theorem k_init (h1 : -999 ≤ lo ∧ lo ≤ 999) (h2 : lo ≤ hi ∧ hi ≤ 999) (h3 : 1 ≤ ev ∧ ev ≤ 9) (h : ω[j]? = some []) : mo_Knob___init__ [OBJ j, .int lo, .int hi, .int ev] ω = .rt .none (ω.set j (kS lo hi ev (nowD lo 0 none 0) [] [])) := by
  refine fnO_nx (ρ' := [.d (OBJ j), .d (.int lo), .d (.int hi), .d (.int ev)]) rfl ?_
  show tl0_o_Knob___init__ [.d (OBJ j), .d (.int lo), .d (.int hi), .d (.int ev)] ω = _
  rw [tl0_o_Knob___init__, oseq_nx (lfS_nx (ρ' := [.d (OBJ j), .d (.int lo), .d (.int hi), .d (.int ev)]) (by simp [fnM0, fnM, sSeq, sIf, sRet, sRetN, sSet, sNil, sDrop, sPar, sPar3, sPar4, sUnp, sApp, sExt, sPut, sFrz, own, frz, nD, nO, nLst, e1, e2, nm, bnm, cst, bv, chE, andT, orT, notT, andV, orV, notV, ifE, cons', tupE, lstE, asB, M.call, ncall, lcall, flatR, flatD, Out.r, Out.s, R.bind, R.of, R.out, pickF, bName, bTup, bNames, itE, items, sFor, lcD, sBad, yes, addD, subD, mulD, fdivD, modD, negD, ltD, leD, gtD, geD, isD, isntD, isNone, lenD, absD, maxD, minD, M.intD, listD, tupleD, isiE, isiTE, isi, isDict, allD, anyD, sumD, m_whole, h1, h2, h3]))]
  rw [tl1_o_Knob___init__, oseq_nx (s_fld (x := .tuple [.int lo, .int hi, .int ev]) (lf_ok (by simp [fnM0, fnM, sSeq, sIf, sRet, sRetN, sSet, sNil, sDrop, sPar, sPar3, sPar4, sUnp, sApp, sExt, sPut, sFrz, own, frz, nD, nO, nLst, e1, e2, nm, bnm, cst, bv, chE, andT, orT, notT, andV, orV, notV, ifE, cons', tupE, lstE, asB, M.call, ncall, lcall, flatR, flatD, Out.r, Out.s, R.bind, R.of, R.out, pickF, bName, bTup, bNames, itE, items, sFor, lcD, sBad, yes])) (obS0 rfl h) (by decide))]
  rw [tl2_o_Knob___init__, oseq_nx (s_fld (x := nowD lo 0 none 0) (lf_ok (by simp [fnM0, fnM, sSeq, sIf, sRet, sRetN, sSet, sNil, sDrop, sPar, sPar3, sPar4, sUnp, sApp, sExt, sPut, sFrz, own, frz, nD, nO, nLst, e1, e2, nm, bnm, cst, bv, chE, andT, orT, notT, andV, orV, notV, ifE, cons', tupE, lstE, asB, M.call, ncall, lcall, flatR, flatD, Out.r, Out.s, R.bind, R.of, R.out, pickF, bName, bTup, bNames, itE, items, sFor, lcD, sBad, yes, nowD, optD])) (obS0 rfl (set_at h _)) (by show 1 < 1000; decide))]
  rw [tl3_o_Knob___init__, oseq_nx (s_fldN (obS0 rfl (set_at (set_at h _) _)) (by show 2 < 1000; decide))]
  rw [tl4_o_Knob___init__, s_fldN (obS0 rfl (set_at (set_at (set_at h _) _) _)) (by show 3 < 1000; decide)]
  simp only [List.set_set]
  rfl
theorem k_make {ρ : Rho} {g : Rho → Om → RX (List D)} (h1 : -999 ≤ lo ∧ lo ≤ 999) (h2 : lo ≤ hi ∧ hi ≤ 999) (h3 : 1 ≤ ev ∧ ev ≤ 9) (hg : g ρ ω = .ok [.int lo, .int hi, .int ev] ω) : xmake mo_Knob___init__ g ρ ω = .ok (OBJ ω.length) (ω ++ [kS lo hi ev (nowD lo 0 none 0) [] []]) := by
  unfold xmake
  rw [hg]
  show (match mo_Knob___init__ (OBJ ω.length :: [.int lo, .int hi, .int ev]) (ω ++ [[]]) with
    | .rt .none ω2 => RX.ok (OBJ ω.length) ω2
    | .rz z ω2 => .rz z ω2
    | _ => .bad) = _
  rw [k_init h1 h2 h3 (by simp)]
  simp
end
end G
namespace G
open M PySem
theorem st_nx1 (a s : Int) (hs : s = 1 ∨ s = -1 ∨ s = 0) : st a (nx a s) = some s := by
  have h : fo a (nx a s) = s % 4 := by
    unfold fo nx
    rw [gi_rd]
    omega
  unfold st
  rw [h]
  rcases hs with rfl | rfl | rfl <;> decide
theorem mk_st1 : ∀ (l : List Int) (a : Int), (∀ s ∈ l, s = 1 ∨ s = -1 ∨ s = 0) → pairs st a (mk a l) = l.map some
  | [], _, _ => rfl
  | s :: l, a, h => by
    rw [mk, pairs, mk_st1 l _ fun x hx => h x (by simp [hx]), st_nx1 a s (h s (by simp))]
    rfl
theorem pc_some (l : List Int) : pc (l.map some) = some l.sum := by
  unfold pc
  rw [if_neg (by simp)]
  simp [Function.comp_def]
theorem take_sum {ss : List Int} {k : Nat} (h : k < ss.length) : (ss.take (k + 1)).sum = (ss.take k).sum + ss[k] := by
  rw [List.take_succ_eq_append_getElem h, List.sum_append]
  simp
theorem row_st {a : Int} {ss : List Int} (h1 : ∀ s ∈ ss, s = 1 ∨ s = -1 ∨ s = 0) {k : Nat} (hk : k < ss.length) : ∃ x y, (a :: mk a ss)[k]? = some x ∧ (a :: mk a ss)[k + 1]? = some y ∧ st x y = some ss[k] := by
  have h2 := mk_st1 ss a h1
  rw [pairs_range] at h2
  have h3 := congrArg (fun l => l[k]?) h2
  simp only [mk_len, List.getElem?_map] at h3
  rw [List.getElem?_range hk, List.getElem?_eq_getElem hk] at h3
  simp only [Option.map_some, Option.some.injEq] at h3
  have l1 : k < (a :: mk a ss).length := by simp [mk_len]; omega
  have l2 : k + 1 < (a :: mk a ss).length := by simp [mk_len]; omega
  refine ⟨_, _, List.getElem?_eq_getElem l1, List.getElem?_eq_getElem l2, ?_⟩
  rw [List.getD_eq_getElem?_getD, List.getD_eq_getElem?_getD, List.getElem?_eq_getElem l1, List.getElem?_eq_getElem l2] at h3
  exact h3
theorem row_rng {a : Int} {ss : List Int} (ha : 0 ≤ a ∧ a ≤ 3) : ∀ x ∈ a :: mk a ss, 0 ≤ x ∧ x ≤ 3 := fun x hx => by
  rcases List.mem_cons.mp hx with rfl | hx
  · exact ha
  · exact mk_rng _ _ x hx
theorem len_row {a : Int} {ss : List Int} : lenD [.tuple ((a :: mk a ss).map .int)] = some (.int ((ss.length + 1 : Nat) : Int)) := by simp [lenD, mk_len]
theorem neI (a b : Int) : neD (.int a) (.int b) = some (!decide (a = b)) := neD_int a b
end G
namespace G
open M PySem
/-- the steps so far -/
def Sm (ss : List Int) (k : Nat) : Int := (ss.take (k - 1)).sum
def La (a : Int) (ss : List Int) : Nat → Option Int
  | 0 => none
  | k + 1 => (a :: mk a ss)[k]?
theorem turn1 {w b : Int} (hb : b = 1 ∨ b = -1 ∨ b = 0) {l : Option Int} {s : Int} (hst : stO l s = some b) (hw : -97 ≤ w ∧ w ≤ 97) : turnF (-99) 99 1 w 0 l 0 s = (w + b, 0, 0) := by
  unfold turnF
  rw [hst]
  dsimp only
  rcases hb with rfl | rfl | rfl
  · rw [if_pos (by decide)]
    unfold mn; rw [if_pos (by omega)]
  · rw [if_neg (by decide), if_pos (by decide)]
    unfold mx; rw [if_pos (by omega)]
    rfl
  · rw [if_neg (by decide), if_neg (by decide)]
    simp
theorem sum_bd : ∀ {ss : List Int}, (∀ s ∈ ss, s = 1 ∨ s = -1 ∨ s = 0) → -(ss.length : Int) ≤ ss.sum ∧ ss.sum ≤ ss.length
  | [], _ => by simp
  | s :: ss, h => by
    have := sum_bd (ss := ss) fun x hx => h x (by simp [hx])
    have h1 := h s (by simp)
    simp only [List.sum_cons, List.length_cons]
    omega
theorem Sm_bd {ss : List Int} (h : ∀ s ∈ ss, s = 1 ∨ s = -1 ∨ s = 0) (hl : ss.length ≤ 30) (k : Nat) : -30 ≤ Sm ss k ∧ Sm ss k ≤ 30 := by
  have := sum_bd (ss := ss.take (k - 1)) fun x hx => h x (List.mem_of_mem_take hx)
  have hl2 : (ss.take (k - 1)).length ≤ ss.length := List.length_take_le' ..
  unfold Sm
  omega
theorem kn1 {ω : Om} {j : Nat} {a : Int} {ss : List Int} {k : Nat} {p la : List D} (h : ω[j]? = some (kS (-99) 99 1 (nowD (Sm ss k) 0 (La a ss k) 0) p la)) (ha : 0 ≤ a ∧ a ≤ 3) (h1 : ∀ s ∈ ss, s = 1 ∨ s = -1 ∨ s = 0) (hl : ss.length ≤ 30) (hk : k < ss.length + 1) (hp : p.length < 1000000) {s : Int} (hs : (a :: mk a ss)[k]? = some s) :
    mo_Knob_turn [OBJ j, .int s] ω = .rt (.int (Sm ss (k + 1))) (ω.set j (kS (-99) 99 1 (nowD (Sm ss (k + 1)) 0 (La a ss (k + 1)) 0) (p ++ [.tuple [.str "turn", nowD (Sm ss k) 0 (La a ss k) 0]]) [])) := by
  have hsm : ∃ b : Int, (b = 1 ∨ b = -1 ∨ b = 0) ∧ stO (La a ss k) s = some b ∧ Sm ss k + b = Sm ss (k + 1) := by
    cases k with
    | zero => exact ⟨0, by omega, rfl, by simp [Sm]⟩
    | succ k' =>
      have hk' : k' < ss.length := by omega
      obtain ⟨x, y, x1, x2, x3⟩ := row_st (a := a) h1 hk'
      rw [x2] at hs
      cases hs
      refine ⟨ss[k'], h1 _ (List.getElem_mem hk'), ?_, ?_⟩
      · show stO ((a :: mk a ss)[k']?) s = _
        rw [x1]
        exact x3
      · show (ss.take k').sum + _ = (ss.take (k' + 1)).sum
        rw [take_sum hk']
  obtain ⟨b, hb, hst, hsum⟩ := hsm
  have hw := Sm_bd h1 hl k
  have ht := turn1 (w := Sm ss k) hb hst (by omega)
  have := k_turn (row_rng ha s (List.mem_of_getElem? hs)) (fun x hx => by
    cases k with
    | zero => cases hx
    | succ k' => exact row_rng ha x (List.mem_of_getElem? hx)) (by decide) hp h
  rw [ht, hsum] at this
  rw [this]
  show _ = OutF.rt _ (ω.set j (kS (-99) 99 1 (nowD (Sm ss (k + 1)) 0 ((a :: mk a ss)[k]?) 0) _ []))
  rw [hs]
/-! ### the wheel that goes along -/
def dif (x y : Int) : Int := y - x
theorem oth_one {p : Int} (hp : 0 ≤ p) : ∀ (ms : List Int) (d o : Int), (∀ m ∈ ms, m = 1 ∨ m = -1 ∨ m = 0) → d - p ≤ o → o ≤ d → ∀ x ∈ pairs dif o (go p d o ms), x = 1 ∨ x = -1 ∨ x = 0
  | [], _, _, _, _, _, x, hx => by simp [go, pairs] at hx
  | m :: ms, d, o, hm, h1, h2, x, hx => by
    have hm0 := hm m (by simp)
    simp only [go, pairs, List.mem_cons] at hx
    rcases hx with rfl | hx
    · unfold dif; omega
    · exact oth_one hp ms _ _ (fun y hy => hm y (by simp [hy])) (by omega) (by omega) x hx
theorem dif_sum : ∀ (xs : List Int) (a : Int) (k : Nat), k ≤ xs.length → ((pairs dif a xs).take k).sum = (a :: xs).getD k 0 - a
  | xs, a, 0, _ => by simp
  | [], a, k + 1, h => by simp at h
  | x :: xs, a, k + 1, h => by
    have := dif_sum xs x k (by simpa using h)
    rw [pairs, List.take_succ_cons, List.sum_cons, this]
    simp only [dif, List.getD_cons_succ]
    omega
theorem far_bd {p : Int} (hp : 0 ≤ p) : ∀ (ms : List Int) (d o : Int), d - p ≤ o → o ≤ d → ∀ k ≤ ms.length, 0 ≤ d + (ms.take k).sum - (o :: go p d o ms).getD k 0 ∧ d + (ms.take k).sum - (o :: go p d o ms).getD k 0 ≤ p
  | ms, d, o, h1, h2, 0, _ => by simp; omega
  | [], d, o, h1, h2, k + 1, h => by simp at h
  | m :: ms, d, o, h1, h2, k + 1, h => by
    have := far_bd hp ms (d + m) (max (d + m - p) (min (d + m) o)) (by omega) (by omega) k (by simpa using h)
    rw [List.take_succ_cons, List.sum_cons, go, List.getD_cons_succ]
    omega
end G
namespace G
open M PySem
def stp (P : Int → Int → Int) (k : Nat) : Int := ([1, 1, -1, -1, 0] : List Int).getD (P (10 + (k : Int)) 5).toNat 0
theorem stp_el {P : Int → Int → Int} (hP : Dr P) (s1 s2 s3 s4 s5 s7 s8 s9 s10 s11 s12 s13 s14 : Sl) (k : Nat) : ce1_o_law P [.d SCR, s1, s2, s3, s4, s5, .d (.int (k : Nat)), s7, s8, s9, s10, s11, s12, s13, s14] = .ok (.int (stp P k)) ∧ (stp P k = 1 ∨ stp P k = -1 ∨ stp P k = 0) := by
  have p0 := hP.lo (10 + (k : Int)) 5 (by decide)
  have p1 := hP.hi (10 + (k : Int)) 5 (by decide)
  have h1 : P (10 + (k : Int)) 5 = 0 ∨ P (10 + (k : Int)) 5 = 1 ∨ P (10 + (k : Int)) 5 = 2 ∨ P (10 + (k : Int)) 5 = 3 ∨ P (10 + (k : Int)) 5 = 4 := by omega
  have hk : (0 : Int) ≤ 10 + (k : Int) := by omega
  unfold stp
  rcases h1 with h1 | h1 | h1 | h1 | h1 <;> rw [h1] <;> exact ⟨by simp [ce1_o_law, fnM0, fnM, sSeq, sIf, sRet, sRetN, sSet, sNil, sDrop, sPar, sPar3, sPar4, sUnp, sApp, sExt, sPut, sFrz, own, frz, nD, nO, nLst, e1, e2, nm, bnm, cst, bv, chE, andT, orT, notT, andV, orV, notV, ifE, cons', tupE, lstE, asB, M.call, ncall, lcall, flatR, flatD, Out.r, Out.s, R.bind, R.of, R.out, pickF, bName, bTup, bNames, itE, items, sFor, lcD, sBad, yes, addD, subD, mulD, fdivD, modD, negD, ltD, leD, gtD, geD, isD, isntD, isNone, lenD, absD, maxD, minD, M.intD, listD, tupleD, isiE, isiTE, isi, isDict, allD, anyD, sumD, SCR, h1, hk, ixD, L2.atI, L2.ixN], by decide⟩
/-- the law's slots -/
abbrev lr (MS TO OT RW AL : D) (p b : Int) (s6 s7 s10 s11 s12 s13 s14 : Sl) : Rho := [.d SCR, .d MS, .d (.int p), .d (.int b), .d TO, .d OT, s6, s7, .d RW, .d AL, s10, s11, s12, s13, s14]
theorem ixT? {row : List Int} {k : Nat} {s : Int} (h : row[k]? = some s) : ixD (.tuple (row.map .int)) (.int (k : Nat)) = some (.int s) := by
  rw [ixT _ _ (List.getElem?_eq_some_iff.mp h).1, List.getD_eq_getElem?_getD, h]
  rfl
theorem ixL? {row : List Int} {k : Nat} {s : Int} (h : row[k]? = some s) : ixD (.list (row.map .int)) (.int (k : Nat)) = some (.int s) := by
  rw [at_nat, h]
  rfl
/-- the pair of knobs -/
def om (ms ot : List Int) (k : Nat) (p0 p1 : List D) : Om := [kS (-99) 99 1 (nowD (Sm ms k) 0 (La 0 ms k) 0) p0 [], kS (-99) 99 1 (nowD (Sm ot k) 0 (La 0 ot k) 0) p1 []]
theorem loop_body {ms ot told : List Int} {p b : Int} {MS OT : D} {s7 s12 s13 s14 : Sl} {k : Nat} {p0 p1 : List D} (h1 : ∀ s ∈ ms, s = 1 ∨ s = -1 ∨ s = 0) (h2 : ∀ s ∈ ot, s = 1 ∨ s = -1 ∨ s = 0) (hl : ms.length ≤ 30) (hlo : ot.length = ms.length) (hk : k < ms.length + 1) (hp0 : p0.length ≤ 40) (hp1 : p1.length ≤ 40)
    (ht : told[k]? = some (Sm ot (k + 1))) (hf : 0 ≤ Sm ms (k + 1) + b - Sm ot (k + 1) ∧ Sm ms (k + 1) + b - Sm ot (k + 1) ≤ p) :
    ∃ s12' e0 e1, lb2_o_law (lr MS (.list (told.map .int)) OT (.tuple ((0 :: mk 0 ms).map .int)) (.tuple ((0 :: mk 0 ot).map .int)) p b (.d (.int (k : Nat))) s7 (.d (OBJ 0)) (.d (OBJ 1)) s12 s13 s14) (om ms ot k p0 p1) = .nx (lr MS (.list (told.map .int)) OT (.tuple ((0 :: mk 0 ms).map .int)) (.tuple ((0 :: mk 0 ot).map .int)) p b (.d (.int (k : Nat))) s7 (.d (OBJ 0)) (.d (OBJ 1)) s12' s13 s14) (om ms ot (k + 1) (p0 ++ [e0]) (p1 ++ [e1])) := by
  have l1 : k < (0 :: mk 0 ms).length := by simp [mk_len]; omega
  have l2 : k < (0 :: mk 0 ot).length := by simp [mk_len]; omega
  have g1 := List.getElem?_eq_getElem l1
  have g2 := List.getElem?_eq_getElem l2
  have t1 := kn1 (ω := om ms ot k p0 p1) (j := 0) (a := 0) (ss := ms) (k := k) rfl (by decide) h1 hl hk (by omega) g1
  have i1 := ixT? g1
  have i2 := ixT? g2
  have i3 := ixL? ht
  generalize (0 :: mk 0 ms)[k] = x1 at *
  generalize (0 :: mk 0 ot)[k] = x2 at *
  have t2 := kn1 (ω := (om ms ot k p0 p1).set 0 (kS (-99) 99 1 (nowD (Sm ms (k + 1)) 0 (La 0 ms (k + 1)) 0) (p0 ++ [.tuple [.str "turn", nowD (Sm ms k) 0 (La 0 ms k) 0]]) [])) (j := 1) (a := 0) (ss := ot) (k := k) rfl (by decide) h2 (by omega) (by omega) (by omega) g2
  generalize (0 :: mk 0 ms).map PyData.int = RW at *
  generalize (0 :: mk 0 ot).map PyData.int = AL at *
  generalize told.map PyData.int = TO at *
  refine ⟨.d (.int (Sm ms (k + 1) + b - Sm ot (k + 1))), .tuple [.str "turn", nowD (Sm ms k) 0 (La 0 ms k) 0], .tuple [.str "turn", nowD (Sm ot k) 0 (La 0 ot k) 0], ?_⟩
  unfold lb2_o_law
  rw [oseq_nx (ρ' := lr MS (.list TO) OT (.tuple RW) (.tuple AL) p b (.d (.int (k : Nat))) s7 (.d (OBJ 0)) (.d (OBJ 1)) (.d (.int (Sm ms (k + 1) + b - Sm ot (k + 1)))) s13 s14) (ω' := om ms ot (k + 1) (p0 ++ [.tuple [.str "turn", nowD (Sm ms k) 0 (La 0 ms k) 0]]) (p1 ++ [.tuple [.str "turn", nowD (Sm ot k) 0 (La 0 ot k) 0]])) ?_]
  · rw [o_ifF (ω' := om ms ot (k + 1) (p0 ++ [.tuple [.str "turn", nowD (Sm ms k) 0 (La 0 ms k) 0]]) (p1 ++ [.tuple [.str "turn", nowD (Sm ot k) 0 (La 0 ot k) 0]]))]
    · rfl
    · refine xor_F (ω' := om ms ot (k + 1) (p0 ++ [.tuple [.str "turn", nowD (Sm ms k) 0 (La 0 ms k) 0]]) (p1 ++ [.tuple [.str "turn", nowD (Sm ot k) 0 (La 0 ot k) 0]])) (lf_ok ?_) (x2_ok (a := .int (Sm ot (k + 1))) (b := .int (Sm ot (k + 1))) ?_ (lf_ok ?_) (by rw [neI]; simp))
      · generalize Sm ms (k + 1) + b - Sm ot (k + 1) = fr at hf ⊢
        simp [notT, chE, cst, bnm, R.bind, R.of, leD, hf.1, hf.2]
      · rw [x_meth0 (obS0 (j := 1) rfl rfl) lk_worth, k_worth (j := 1) rfl]; rfl
      · simp [e2, bnm, R.bind, R.of, i3]
  · rw [o_set (x := .int (Sm ms (k + 1) + b - Sm ot (k + 1))) (ω' := om ms ot (k + 1) (p0 ++ [.tuple [.str "turn", nowD (Sm ms k) 0 (La 0 ms k) 0]]) (p1 ++ [.tuple [.str "turn", nowD (Sm ot k) 0 (La 0 ot k) 0]]))]
    · rfl
    · refine x2_ok (ω1 := (om ms ot k p0 p1).set 0 (kS (-99) 99 1 (nowD (Sm ms (k + 1)) 0 (La 0 ms (k + 1)) 0) (p0 ++ [PyData.tuple [PyData.str "turn", nowD (Sm ms k) 0 (La 0 ms k) 0]]) [])) (a := .int (Sm ms (k + 1) + b)) (b := .int (Sm ot (k + 1))) (x2_ok (ω1 := (om ms ot k p0 p1).set 0 (kS (-99) 99 1 (nowD (Sm ms (k + 1)) 0 (La 0 ms (k + 1)) 0) (p0 ++ [PyData.tuple [PyData.str "turn", nowD (Sm ms k) 0 (La 0 ms k) 0]]) [])) (a := .int (Sm ms (k + 1))) (b := .int b) ?_ (lf_ok (x := PyData.int b) rfl) rfl) ?_ rfl
      · rw [x_meth (obS0 (j := 0) rfl rfl) lk_turn (lf_ok (x := [.int x1]) (by simp [cons', e2, bnm, cst, R.bind, R.of, i1])), t1]; rfl
      · rw [x_meth (obS0 (j := 1) rfl rfl) lk_turn (lf_ok (x := [.int x2]) (by simp [cons', e2, bnm, cst, R.bind, R.of, i2])), t2]; rfl
end G
namespace G
open M PySem
theorem dif_get : ∀ (xs : List Int) (a : Int) (i : Nat), i < xs.length → (pairs dif a xs)[i]? = some (xs.getD i 0 - (a :: xs).getD i 0)
  | [], _, _, h => by simp at h
  | x :: xs, a, 0, _ => by simp [pairs, dif]
  | x :: xs, a, i + 1, h => by
    rw [pairs, List.getElem?_cons_succ, dif_get xs x i (by simpa using h)]
    simp
theorem law_fin {ms : List Int} {p b : Int} {TO RW AL : D} {s6 s7 s10 s11 s12 s13 s14 : Sl} {ω : Om} (h1 : ∀ s ∈ ms, s = 1 ∨ s = -1 ∨ s = 0) (hl : ms.length ≤ 30) (hp : 0 ≤ p ∧ p ≤ 5) (hb : 0 ≤ b ∧ b ≤ p) (ho : ∀ s ∈ pairs dif 0 (go p b 0 ms), s = 1 ∨ s = -1 ∨ s = 0) :
    tl11_o_law (lr (.list (ms.map .int)) TO (.list ((pairs dif 0 (go p b 0 ms)).map .int)) RW AL p b s6 s7 s10 s11 s12 s13 s14) ω = .rt (.bool true) ω := by
  have hgl := go_len p ms b 0
  have hml := m_lost (ms := ms) (p := p) (b := b) (by omega) (fun m hm => by have := h1 m hm; omega) (by omega) hb
  have hlr := lost_range ms (go p b 0 ms) 0 0 hgl
  generalize hO : pairs dif 0 (go p b 0 ms) = OT at *
  have hol : OT.length = ms.length := by rw [← hO, pairs_len, hgl]
  have key : lcL (bName 6) ct3_o_law (nm 6) (wip [6] (lr (.list (ms.map .int)) TO (.list (OT.map .int)) RW AL p b s6 s7 s10 s11 s12 s13 s14)) (rng 0 ms.length) = some ((lostL 0 0 ms (go p b 0 ms)).map .int) := by
    rw [hlr, rng, lcL_map (d := fun (i : Nat) => PyData.int (0 + (i : Int))) (β := fun i => lr (.list (ms.map .int)) TO (.list (OT.map .int)) RW AL p b (.d (.int (i : Nat))) s7 s10 s11 s12 s13 s14) (T := fun i => decide (ms[i]? ≠ some 0) && decide (((0 : Int) :: go p b 0 ms)[i]? = (go p b 0 ms)[i]?)) (F := fun i => .int (i : Nat))]
    · simp [List.map_map, Function.comp_def]
    · intro i hi
      have hi' : i < ms.length := List.mem_range.mp hi
      have hg : i < (go p b 0 ms).length := by omega
      have hc1 : i < ((0 : Int) :: go p b 0 ms).length := by simp; omega
      have a1 := at_nat ms i
      have a2 := at_nat OT i
      rw [List.getElem?_eq_getElem hi'] at a1
      rw [← hO, dif_get _ _ _ hg, List.getD_eq_getElem?_getD, List.getD_eq_getElem?_getD, List.getElem?_eq_getElem hg, List.getElem?_eq_getElem hc1] at a2
      rw [hO] at a2
      refine ⟨by simp [bName, wip], ?_, fun _ => rfl⟩
      rw [List.getElem?_eq_getElem hi', List.getElem?_eq_getElem hg, List.getElem?_eq_getElem hc1]
      simp only [ct3_o_law, andT, e2, bnm, cst, List.getElem?_cons_zero, List.getElem?_cons_succ, R.bind, a1, a2, R.of, Option.map_some, neD_int, eqD_int, Option.some.injEq, Option.getD_some]
      generalize (go p b 0 ms)[i] = u
      generalize ((0 : Int) :: go p b 0 ms)[i] = v
      by_cases c : ms[i] = 0 <;> simp [c]
      by_cases c2 : v = u
      · simp [c2]
      · simp [c2]; omega
  have hlen1 : lenD [.list (ms.map .int)] = some (.int ((ms.length : Nat) : Int)) := by simp [lenD]
  have h3 : (rng 0 ms.length).length ≤ 1000000 := by simp [rng]; omega
  generalize hLL : lostL 0 0 ms (go p b 0 ms) = LL at *
  have key2 : lcL (bName 14) ct4_o_law (nm 14) (wip [14] (lr (.list (ms.map .int)) TO (.list (OT.map .int)) RW AL p b s6 (.o (LL.map .int)) s10 s11 s12 s13 s14)) (OT.map .int) = some [] := by
    rw [lcL_map (d := PyData.int) (β := fun x => lr (.list (ms.map .int)) TO (.list (OT.map .int)) RW AL p b s6 (.o (LL.map .int)) s10 s11 s12 s13 (.d (.int x))) (T := fun _ => false) (F := fun x => .int x)]
    · simp
    · intro x hx
      refine ⟨by simp [bName, wip], ?_, fun h => by cases h⟩
      have := ho x hx
      simp only [ct4_o_law, e2, e1, cons', bnm, cst, List.getElem?_cons_zero, List.getElem?_cons_succ, R.bind, R.of, absD, gtD]
      rcases this with rfl | rfl | rfl <;> rfl
  have hOl : (OT.map PyData.int).length ≤ 1000000 := by simp; omega
  have heq := eqD_ints LL LL
  generalize ms.map PyData.int = MS at *
  generalize OT.map PyData.int = OO at *
  rw [tl11_o_law, oseq_nx (lfS_nx (ρ' := lr (.list MS) TO (.list OO) RW AL p b s6 (.o (LL.map .int)) s10 s11 s12 s13 s14) (by
    have hr := rg1_of (f := e1 lenD (cons' (bnm 1) (cst []))) (ρ := lr (.list MS) TO (.list OO) RW AL p b s6 s7 s10 s11 s12 s13 s14) (n := ms.length) (by simp only [e1, cons', bnm, cst, R.bind, R.of, List.getElem?_cons_zero, List.getElem?_cons_succ, hlen1]) (by omega)
    simp only [sSet, nO, lcE, hr, R.bind, h3, if_true, key, R.of, R.out]
    rfl))]
  rw [tl12_o_law]
  refine lfS_rt ?_
  have f1 : frz 5 (lr (.list MS) TO (.list OO) RW AL p b s6 (.o (LL.map .int)) s10 s11 s12 s13 s14) = lr (.list MS) TO (.list OO) RW AL p b s6 (.o (LL.map .int)) s10 s11 s12 s13 s14 := rfl
  have f2 : frz 1 (lr (.list MS) TO (.list OO) RW AL p b s6 (.o (LL.map .int)) s10 s11 s12 s13 s14) = lr (.list MS) TO (.list OO) RW AL p b s6 (.o (LL.map .int)) s10 s11 s12 s13 s14 := rfl
  simp only [sFrz, f1, f2]
  simp only [sRet, andV, bv, e2, e1, M.call, cons', nm, bnm, cst, lcD, lcE, itE, items, R.bind, R.of, List.getElem?_cons_zero, List.getElem?_cons_succ, hml, Out.r, heq, decide_true, hOl, if_true, key2, lenD, R.out]
  simp [eqD_int]
end G
namespace G
open M PySem
/-- the loop, from the knobs laid -/
theorem law_loop {ms ot told : List Int} {p b : Int} {s6 s7 s12 s13 s14 : Sl} (h1 : ∀ s ∈ ms, s = 1 ∨ s = -1 ∨ s = 0) (h2 : ∀ s ∈ ot, s = 1 ∨ s = -1 ∨ s = 0) (hl : ms.length ≤ 30) (hlo : ot.length = ms.length) {MS OT : D} {e0 e1 : D}
    (ht : ∀ k < ms.length + 1, told[k]? = some (Sm ot (k + 1))) (hf : ∀ k < ms.length + 1, 0 ≤ Sm ms (k + 1) + b - Sm ot (k + 1) ∧ Sm ms (k + 1) + b - Sm ot (k + 1) ≤ p) :
    ∃ s6' s12' ω', oFor (rg1 (M.e1 lenD (cons' (bnm 8) (cst [])))) (bName 6) lb2_o_law (lr MS (.list (told.map .int)) OT (.tuple ((0 :: mk 0 ms).map .int)) (.tuple ((0 :: mk 0 ot).map .int)) p b s6 s7 (.d (OBJ 0)) (.d (OBJ 1)) s12 s13 s14) (om ms ot 0 [e0] [e1]) = .nx (lr MS (.list (told.map .int)) OT (.tuple ((0 :: mk 0 ms).map .int)) (.tuple ((0 :: mk 0 ot).map .int)) p b s6' s7 (.d (OBJ 0)) (.d (OBJ 1)) s12' s13 s14) ω' := by
  obtain ⟨ρ1, ω1, f1, s61, s121, p0, p1, rfl, rfl, _⟩ := forO_inv (b := bName 6) (body := lb2_o_law) (fun k ρ ω => ∃ s6 s12 p0 p1, ρ = lr MS (.list (told.map .int)) OT (.tuple ((0 :: mk 0 ms).map .int)) (.tuple ((0 :: mk 0 ot).map .int)) p b s6 s7 (.d (OBJ 0)) (.d (OBJ 1)) s12 s13 s14 ∧ ω = om ms ot k p0 p1 ∧ p0.length = k + 1 ∧ p1.length = k + 1) (rng 0 (ms.length + 1)) 0 _ _ ⟨s6, s12, [e0], [e1], rfl, rfl, rfl, rfl⟩ (fun k x ρ ω hx ⟨s6, s12, p0, p1, e, eω, l0, l1⟩ => by
    obtain ⟨hk, rfl⟩ := rng_get hx
    subst e eω
    rw [Nat.zero_add] at l0 l1 ⊢
    obtain ⟨s12', q0, q1, e3⟩ := loop_body (MS := MS) (OT := OT) (s7 := s7) (s12 := s12) (s13 := s13) (s14 := s14) (p0 := p0) (p1 := p1) h1 h2 hl hlo hk (by omega) (by omega) (ht k hk) (hf k hk)
    exact ⟨_, _, _, rfl, e3, _, s12', _, _, rfl, rfl, by simp [l0], by simp [l1]⟩)
  refine ⟨s61, s121, om ms ot (0 + (rng 0 (ms.length + 1)).length) p0 p1, ?_⟩
  have hr := rg1_of (f := M.e1 lenD (cons' (bnm 8) (cst []))) (ρ := lr MS (.list (told.map .int)) OT (.tuple ((0 :: mk 0 ms).map .int)) (.tuple ((0 :: mk 0 ot).map .int)) p b s6 s7 (.d (OBJ 0)) (.d (OBJ 1)) s12 s13 s14) (n := ms.length + 1) (by simp only [M.e1, cons', bnm, cst, R.bind, R.of, List.getElem?_cons_zero, List.getElem?_cons_succ, len_row]) (by omega)
  rw [oFor, hr]
  exact f1
theorem law_kn {ms ot told : List Int} {p b : Int} (h1 : ∀ s ∈ ms, s = 1 ∨ s = -1 ∨ s = 0) (h2 : ∀ s ∈ ot, s = 1 ∨ s = -1 ∨ s = 0) (hl : ms.length ≤ 30) (hlo : ot.length = ms.length) (hp : 0 ≤ p ∧ p ≤ 5) (hb : 0 ≤ b ∧ b ≤ p) (hot : ot = pairs dif 0 (go p b 0 ms))
    (ht : ∀ k < ms.length + 1, told[k]? = some (Sm ot (k + 1))) (hf : ∀ k < ms.length + 1, 0 ≤ Sm ms (k + 1) + b - Sm ot (k + 1) ∧ Sm ms (k + 1) + b - Sm ot (k + 1) ≤ p) :
    ∃ ω, tl7_o_law (lr (.list (ms.map .int)) (.list (told.map .int)) (.list (ot.map .int)) (.tuple ((0 :: mk 0 ms).map .int)) (.tuple ((0 :: mk 0 ot).map .int)) p b .no .no .no .no .no .no .no) [] = .rt (.bool true) ω := by
  have fin := fun s6 s12 ω => law_fin (TO := .list (told.map .int)) (RW := .tuple ((0 :: mk 0 ms).map .int)) (AL := .tuple ((0 :: mk 0 ot).map .int)) (s6 := s6) (s7 := .no) (s10 := .d (OBJ 0)) (s11 := .d (OBJ 1)) (s12 := s12) (s13 := .no) (s14 := .no) (ω := ω) h1 hl hp hb (by rw [← hot]; exact h2)
  have lp := law_loop (ms := ms) (ot := ot) (told := told) (p := p) (b := b) (s6 := .no) (s7 := .no) (s12 := .no) (s13 := .no) (s14 := .no) (MS := .list (ms.map .int)) (OT := .list (ot.map .int)) (e0 := .tuple [.str "lay", nowD (-99) 0 none 0]) (e1 := .tuple [.str "lay", nowD (-99) 0 none 0]) h1 h2 hl hlo ht hf
  rw [← hot] at fin
  generalize (PyData.list (ms.map PyData.int)) = MS at *
  generalize (PyData.list (told.map PyData.int)) = TO at *
  generalize (PyData.list (ot.map PyData.int)) = OT at *
  generalize (PyData.tuple ((0 :: mk 0 ms).map PyData.int)) = RW at *
  generalize (PyData.tuple ((0 :: mk 0 ot).map PyData.int)) = AL at *
  have mk0 := k_make (ω := []) (ρ := lr MS TO OT RW AL p b .no .no .no .no .no .no .no) (g := lf (cons' (M.e1 negD (cst (.int 99))) (cons' (cst (.int 99)) (cons' (cst (.int 1)) (cst []))))) (lo := -99) (hi := 99) (ev := 1) (by decide) (by decide) (by decide) (lf_ok (by simp [fnM0, fnM, sSeq, sIf, sRet, sRetN, sSet, sNil, sDrop, sPar, sPar3, sPar4, sUnp, sApp, sExt, sPut, sFrz, own, frz, nD, nO, nLst, e1, e2, nm, bnm, cst, bv, chE, andT, orT, notT, andV, orV, notV, ifE, cons', tupE, lstE, asB, M.call, ncall, lcall, flatR, flatD, Out.r, Out.s, R.bind, R.of, R.out, pickF, bName, bTup, bNames, itE, items, sFor, lcD, sBad, yes, negD]))
  have mk1 := k_make (ω := [kS (-99) 99 1 (nowD (-99) 0 none 0) [] []]) (ρ := lr MS TO OT RW AL p b .no .no .no .no .no .no .no) (g := lf (cons' (M.e1 negD (cst (.int 99))) (cons' (cst (.int 99)) (cons' (cst (.int 1)) (cst []))))) (lo := -99) (hi := 99) (ev := 1) (by decide) (by decide) (by decide) (lf_ok (by simp [fnM0, fnM, sSeq, sIf, sRet, sRetN, sSet, sNil, sDrop, sPar, sPar3, sPar4, sUnp, sApp, sExt, sPut, sFrz, own, frz, nD, nO, nLst, e1, e2, nm, bnm, cst, bv, chE, andT, orT, notT, andV, orV, notV, ifE, cons', tupE, lstE, asB, M.call, ncall, lcall, flatR, flatD, Out.r, Out.s, R.bind, R.of, R.out, pickF, bName, bTup, bNames, itE, items, sFor, lcD, sBad, yes, negD]))
  rw [tl7_o_law, oseq_nx (ρ' := lr MS TO OT RW AL p b .no .no (.d (OBJ 0)) (.d (OBJ 1)) .no .no .no) (ω' := [kS (-99) 99 1 (nowD (-99) 0 none 0) [] [], kS (-99) 99 1 (nowD (-99) 0 none 0) [] []]) (by
    simp only [oPar, mk0, RX.out, List.nil_append, List.length_nil]
    rw [mk1]
    rfl)]
  have l0 := k_lay (ω := [kS (-99) 99 1 (nowD (-99) 0 none 0) [] [], kS (-99) 99 1 (nowD (-99) 0 none 0) [] []]) (j := 0) (n := 0) (by decide) (by decide) rfl
  have l1 := k_lay (ω := [kS (-99) 99 1 (nowD 0 0 none 0) [.tuple [.str "lay", nowD (-99) 0 none 0]] [], kS (-99) 99 1 (nowD (-99) 0 none 0) [] []]) (j := 1) (n := 0) (by decide) (by decide) rfl
  rw [tl8_o_law, oseq_nx (ρ' := lr MS TO OT RW AL p b .no .no (.d (OBJ 0)) (.d (OBJ 1)) .no .no .no) (ω' := [kS (-99) 99 1 (nowD 0 0 none 0) [.tuple [.str "lay", nowD (-99) 0 none 0]] [], kS (-99) 99 1 (nowD (-99) 0 none 0) [] []]) (o_drop (x := .int (-99)) (by
    rw [x_meth (obS0 (j := 0) rfl rfl) lk_lay (lf_ok (x := [.int 0]) rfl), l0]
    rfl))]
  rw [tl9_o_law, oseq_nx (ρ' := lr MS TO OT RW AL p b .no .no (.d (OBJ 0)) (.d (OBJ 1)) .no .no .no) (ω' := om ms ot 0 [.tuple [.str "lay", nowD (-99) 0 none 0]] [.tuple [.str "lay", nowD (-99) 0 none 0]]) (o_drop (x := .int (-99)) (by
    rw [x_meth (obS0 (j := 1) rfl rfl) lk_lay (lf_ok (x := [.int 0]) rfl), l1]
    rfl))]
  obtain ⟨s6', s12', ω', e⟩ := lp
  rw [tl10_o_law, oseq_nx e]
  exact ⟨ω', fin s6' s12' ω'⟩
theorem law_true' {P : Int → Int → Int} (hP : Dr P) : ∃ ω, mo_law P [SCR] [] = .rt (.bool true) ω := by
  have n0 := hP.lo 0 31 (by decide)
  have n1 := hP.hi 0 31 (by decide)
  have p0 := hP.lo 1 6 (by decide)
  have p1 := hP.hi 1 6 (by decide)
  have b0 := hP.lo 2 (P 1 6 + 1) (by omega)
  have b1 := hP.hi 2 (P 1 6 + 1) (by omega)
  obtain ⟨n, hn⟩ := Int.eq_ofNat_of_zero_le n0
  have hn30 : n ≤ 30 := by omega
  have hpos : 0 ≤ P 1 6 ∧ 0 < P 1 6 + 1 := by omega
  generalize hpE : P 1 6 = p at *
  generalize hbE : P 2 (p + 1) = b at *
  have hp : 0 ≤ p ∧ p ≤ 5 := by omega
  have hb : 0 ≤ b ∧ b ≤ p := by omega
  obtain ⟨ms, hmsE⟩ : ∃ ms, ms = (List.range n).map (stp P) := ⟨_, rfl⟩
  have h1 : ∀ s ∈ ms, s = 1 ∨ s = -1 ∨ s = 0 := fun s hs => by
    rw [hmsE] at hs
    obtain ⟨k, _, rfl⟩ := List.mem_map.mp hs
    exact (stp_el hP .no .no .no .no .no .no .no .no .no .no .no .no .no k).2
  have hml : ms.length = n := by rw [hmsE]; simp
  have hl : ms.length ≤ 30 := by omega
  have hgl := go_len p ms b 0
  have hfo := m_foll (ms := ms) (p := p) (b := b) (by omega) (fun m hm => by have := h1 m hm; omega) (by omega) hb
  obtain ⟨ot, hot⟩ : ∃ ot, ot = pairs dif 0 (go p b 0 ms) := ⟨_, rfl⟩
  have h2 : ∀ s ∈ ot, s = 1 ∨ s = -1 ∨ s = 0 := by rw [hot]; exact oth_one hp.1 ms b 0 h1 (by omega) hb.1
  have hol : ot.length = ms.length := by rw [hot, pairs_len, hgl]
  have hS : ∀ k, k ≤ ms.length → Sm ot (k + 1) = (0 :: go p b 0 ms).getD k 0 := fun k hk => by
    unfold Sm
    rw [hot, Nat.add_sub_cancel, dif_sum _ _ _ (by omega)]
    omega
  have ht : ∀ k < ms.length + 1, (0 :: go p b 0 ms)[k]? = some (Sm ot (k + 1)) := fun k hk => by
    rw [hS k (by omega), List.getD_eq_getElem?_getD, List.getElem?_eq_getElem (by simp; omega)]
    rfl
  have hf : ∀ k < ms.length + 1, 0 ≤ Sm ms (k + 1) + b - Sm ot (k + 1) ∧ Sm ms (k + 1) + b - Sm ot (k + 1) ≤ p := fun k hk => by
    have := far_bd hp.1 ms b 0 (by omega) hb.1 k (by omega)
    rw [hS k (by omega)]
    have e : Sm ms (k + 1) = (ms.take k).sum := rfl
    rw [e]
    omega
  suffices h : ∃ ω, tl0_o_law P [.d SCR, .no, .no, .no, .no, .no, .no, .no, .no, .no, .no, .no, .no, .no, .no] [] = .rt (.bool true) ω by
    obtain ⟨ω, h⟩ := h
    exact ⟨ω, fnO_rt rfl h⟩
  have key : lcL (bName 6) yes (ce1_o_law P) [.d SCR, .no, .no, .no, .no, .no, .no, .no, .no, .no, .no, .no, .no, .no, .no] (rng 0 n) = some (ms.map .int) := by
    have : rng 0 n = (List.range n).map fun k : Nat => PyData.int (k : Nat) := by
      rw [rng_map]; simp [List.map_map, Function.comp_def]
    rw [this, lcL_all (d := fun k : Nat => PyData.int (k : Nat)) (β := fun k : Nat => [.d SCR, .no, .no, .no, .no, .no, .d (.int (k : Nat)), .no, .no, .no, .no, .no, .no, .no, .no]) (F := fun k => .int (stp P k))]
    · rw [hmsE]; simp [List.map_map, Function.comp_def]
    · intro k _
      exact ⟨rfl, (stp_el hP _ _ _ _ _ _ _ _ _ _ _ _ _ k).1⟩
  have hrl : (rng 0 n).length ≤ 1000000 := by rw [rng_len]; omega
  have hzip := zip_lc (ρ := [.d SCR, .d (.list (ms.map .int)), .d (.int p), .d (.int b), .d (.list ((0 :: go p b 0 ms).map .int)), .no, .no, .no, .no, .no, .no, .no, .no, .no, .no]) (b := bTup [13, 14]) (f := e2 subD (bnm 14) (bnm 13)) (fun x y => .int (dif x y)) (fun x y => [.d SCR, .d (.list (ms.map .int)), .d (.int p), .d (.int b), .d (.list ((0 :: go p b 0 ms).map .int)), .no, .no, .no, .no, .no, .no, .no, .no, .d (.int x), .d (.int y)]) (fun x y => rfl) (go p b 0 ms) 0 (fun x y _ _ => rfl)
  rw [pairs_map, ← hot] at hzip
  have hsl : slD (.list ((0 :: go p b 0 ms).map .int)) (some 1) none = some (.list ((go p b 0 ms).map .int)) := by
    simp only [slD, cutD, HT.sIx]
    simp
    rw [List.take_of_length_le (by simp)]
  have hcl : (zipD ((0 :: go p b 0 ms).map PyData.int) ((go p b 0 ms).map PyData.int)).length ≤ 1000000 := by
    simp [zipD]; omega
  have hcat : (1 : Nat) + ((go p b 0 ms).map PyData.int).length ≤ 1000000 := by simp; omega
  have m1 := m_made (a := 0) (by decide) (ss := ms) (by omega)
  have m2 := m_made (a := 0) (by decide) (ss := ot) (by omega)
  have q1 := m_plain (a := 0) (xs := mk 0 ms) (by simp [mk_len]; omega) (row_rng (by decide))
  have q2 := m_plain (a := 0) (xs := mk 0 ot) (by simp [mk_len]; omega) (row_rng (by decide))
  rw [mk_st1 _ _ h1, pc_some] at q1
  rw [mk_st1 _ _ h2, pc_some] at q2
  have hlast : ixD (.list ((0 :: go p b 0 ms).map .int)) (.int (-1)) = some (.int ot.sum) := by
    have hs : ot.sum = (0 :: go p b 0 ms).getD ms.length 0 := by
      have := hS ms.length (Nat.le_refl _)
      unfold Sm at this
      rw [Nat.add_sub_cancel, List.take_of_length_le (by omega)] at this
      exact this
    have hdl : (0 :: go p b 0 ms) = (0 :: go p b 0 ms).take ms.length ++ [(0 :: go p b 0 ms).getD ms.length 0] := by
      have hlt : ms.length < (0 :: go p b 0 ms).length := by simp; omega
      have h3 : (0 :: go p b 0 ms).take (ms.length + 1) = 0 :: go p b 0 ms := List.take_of_length_le (by simp; omega)
      rw [List.getD_eq_getElem?_getD, List.getElem?_eq_getElem hlt]
      conv => lhs; rw [← h3]
      rw [List.take_succ_eq_append_getElem hlt]
      rfl
    generalize (0 :: go p b 0 ms).getD ms.length 0 = z at *
    rw [hdl, ixl_last, hs]
  have hsum : sumD [.list (ms.map .int)] = some (.int ms.sum) := by
    simp only [sumD]
    have : intsOf (ms.map .int) = some ms := by
      have := ints_opts (ms.map some) (by simp)
      simpa [List.map_map, Function.comp_def, optD] using this
    rw [this]
    rfl
  have fin := law_kn (told := 0 :: go p b 0 ms) h1 h2 hl hol hp hb hot ht hf
  have kc : (lstE (cons' (cst (.int 0)) (cst []))) = (lstE (cons' (cst (.int 0)) (cst []))) := rfl
  rw [tl0_o_law, oseq_nx (lfS_nx (ρ' := [.d SCR, .d (.list (ms.map .int)), .no, .no, .no, .no, .no, .no, .no, .no, .no, .no, .no, .no, .no]) (by
    have hr := rg1_of (f := M.call (pickF P) (cons' (nm 0) (cons' (cst (.int 0)) (cons' (cst (.int 31)) (cst []))))) (ρ := [.d SCR, .no, .no, .no, .no, .no, .no, .no, .no, .no, .no, .no, .no, .no, .no]) (n := n) (by simp [fnM0, fnM, sSeq, sIf, sRet, sRetN, sSet, sNil, sDrop, sPar, sPar3, sPar4, sUnp, sApp, sExt, sPut, sFrz, own, frz, nD, nO, nLst, e1, e2, nm, bnm, cst, bv, chE, andT, orT, notT, andV, orV, notV, ifE, cons', tupE, lstE, asB, M.call, ncall, lcall, flatR, flatD, Out.r, Out.s, R.bind, R.of, R.out, pickF, bName, bTup, bNames, itE, items, sFor, lcD, sBad, yes, SCR, hn]) (by omega)
    simp only [sSet, nD, lcD, lcE, hr, R.bind, hrl, if_true]
    rw [show wip [6] [Sl.d SCR, .no, .no, .no, .no, .no, .no, .no, .no, .no, .no, .no, .no, .no, .no] = [Sl.d SCR, .no, .no, .no, .no, .no, .no, .no, .no, .no, .no, .no, .no, .no, .no] from rfl, key]
    rfl))]
  generalize hA : ms.map PyData.int = MSL at *
  generalize hB : (0 :: go p b 0 ms).map PyData.int = TOL at *
  generalize hC : (go p b 0 ms).map PyData.int = GOL at *
  generalize hE : ot.map PyData.int = OTL at *
  generalize hF : (0 :: mk 0 ms).map PyData.int = RWL at *
  generalize hG : (0 :: mk 0 ot).map PyData.int = ALL at *
  have hTOL : TOL = .int 0 :: GOL := by rw [← hB, ← hC]; rfl
  rw [tl1_o_law, oseq_nx (lfS_nx (ρ' := [.d SCR, .d (.list MSL), .d (.int p), .no, .no, .no, .no, .no, .no, .no, .no, .no, .no, .no, .no]) (by simp [fnM0, fnM, sSeq, sIf, sRet, sRetN, sSet, sNil, sDrop, sPar, sPar3, sPar4, sUnp, sApp, sExt, sPut, sFrz, own, frz, nD, nO, nLst, e1, e2, nm, bnm, cst, bv, chE, andT, orT, notT, andV, orV, notV, ifE, cons', tupE, lstE, asB, M.call, ncall, lcall, flatR, flatD, Out.r, Out.s, R.bind, R.of, R.out, pickF, bName, bTup, bNames, itE, items, sFor, lcD, sBad, yes, SCR, hpE]))]
  rw [tl2_o_law, oseq_nx (lfS_nx (ρ' := [.d SCR, .d (.list MSL), .d (.int p), .d (.int b), .no, .no, .no, .no, .no, .no, .no, .no, .no, .no, .no]) (by
    have : 0 < p + 1 := hpos.2
    simp [fnM0, fnM, sSeq, sIf, sRet, sRetN, sSet, sNil, sDrop, sPar, sPar3, sPar4, sUnp, sApp, sExt, sPut, sFrz, own, frz, nD, nO, nLst, e1, e2, nm, bnm, cst, bv, chE, andT, orT, notT, andV, orV, notV, ifE, cons', tupE, lstE, asB, M.call, ncall, lcall, flatR, flatD, Out.r, Out.s, R.bind, R.of, R.out, pickF, bName, bTup, bNames, itE, items, sFor, lcD, sBad, yes, SCR, addD, hbE, this]))]
  rw [tl3_o_law, oseq_nx (lfS_nx (ρ' := [.d SCR, .d (.list MSL), .d (.int p), .d (.int b), .d (.list TOL), .no, .no, .no, .no, .no, .no, .no, .no, .no, .no]) (by
    rw [hTOL]
    simp [sFrz, frz, sSet, nD, e2, lstE, M.call, cons', cst, nm, R.bind, R.of, R.out, hfo, Out.r, addD, hcat]))]
  rw [tl4_o_law, oseq_nx (lfS_nx (ρ' := [.d SCR, .d (.list MSL), .d (.int p), .d (.int b), .d (.list TOL), .d (.list OTL), .no, .no, .no, .no, .no, .no, .no, .no, .no]) (by
    simp only [sSet, nD, lcD, lcE, zpE, slE, M.e1, nm, bnm, cst, asI, R.bind, R.of, List.getElem?_cons_zero, List.getElem?_cons_succ, hsl, hcl, if_true]
    rw [show wip [13, 14] [Sl.d SCR, .d (.list MSL), .d (.int p), .d (.int b), .d (.list TOL), .no, .no, .no, .no, .no, .no, .no, .no, .no, .no] = [Sl.d SCR, .d (.list MSL), .d (.int p), .d (.int b), .d (.list TOL), .no, .no, .no, .no, .no, .no, .no, .no, .no, .no] from rfl, hzip]
    rfl))]
  rw [tl5_o_law, oseq_nx (lfS_nx (ρ' := [.d SCR, .d (.list MSL), .d (.int p), .d (.int b), .d (.list TOL), .d (.list OTL), .no, .no, .d (.tuple RWL), .d (.tuple ALL), .no, .no, .no, .no, .no]) (by
    simp [sFrz, frz, sPar, nD, M.call, cons', cst, nm, R.bind, R.of, R.out, m1, m2, Out.r]))]
  rw [tl6_o_law, oseq_nx (lfS_nx (ρ' := [.d SCR, .d (.list MSL), .d (.int p), .d (.int b), .d (.list TOL), .d (.list OTL), .no, .no, .d (.tuple RWL), .d (.tuple ALL), .no, .no, .no, .no, .no]) (by
    simp [sIf, orT, e2, M.e1, M.call, cons', cst, nm, bnm, R.bind, R.of, R.out, q1, q2, Out.r, optD, hsum, negD, hlast, neD_int, sNil]))]
  exact fin
theorem law_true (ns : List Int) (hl : ns.length ≤ 63) : ∃ ω, mo_law (M.pick ns) [M.SCR] [] = .rt (.bool true) ω := law_true' (dr_pick ns)
end G
open PySem PySem.W PyProof.Rows
set_option maxHeartbeats 0 in
theorem PySem.Challenge.cw_turntracks_k85_whole_plays_and_knobs_holds : PySem.Challenge.rw_turntracks_k85_whole_plays_and_knobs.Holds := by
  w_on; o_law; k_head; (case hw => w_witness2)
  k_fill
  refine L2.walk_of (l := PySem.Challenge.rw_turntracks_k85_whole_plays_and_knobs) (n := 63) (k := 6) (x := "script") (CX := fun _ => L2.CX0) (sp := fun w => G.spLaw _) rfl (by decide) rfl ⟨rfl, by decide, by decide⟩ (fun w h Y => PySem.W.kIn_of Y) ?F (fun _ _ a ns hl _ hS => let ⟨ω, hω⟩ := G.law_true ns hl; ⟨a, ns, ω, rfl, hS, hω, fun _ => rfl⟩) (fun _ _ _ _ _ h => h)
  case F =>
    intro w mg fa h KX Gg hmg
    refine' G.all_end KX Gg hmg ?a0 ?l0 ?e0 ?k0 ?a1 ?l1 ?e1 ?k1 ?a2 ?l2 ?e2 ?k2 ?a3 ?l3 ?e3 ?k3 ?a4 ?l4 ?e4 ?k4 ?a5 ?l5 ?e5 ?k5 ?a6 ?l6 ?e6 ?k6 ?a7 ?l7 ?e7 ?k7 ?a8 ?l8 ?e8 ?k8 ?a9 ?l9 ?e9 ?k9 ?a10 ?l10 ?e10 ?k10 ?a11 ?l11 ?e11 ?k11 ?a12 ?l12 ?e12 ?k12 ?a13 ?l13 ?e13 ?k13 ?a14 ?l14 ?e14 ?k14 ?c_Knob ?cp ?ch ?co ?ca ?nf_own ?nf_now ?nf_past ?nf_later ?ao0 ?io0 ?lo0 ?eo0 ?ko0 ?ao1 ?io1 ?lo1 ?eo1 ?ko1 ?ao2 ?io2 ?lo2 ?eo2 ?ko2 ?ao3 ?io3 ?mkm ?mkk ?lo3 ?eo3 ?ko3 ?ao4 ?io4 ?lo4 ?eo4 ?ko4 ?ao5 ?lo5 ?eo5 ?ko5 ?z_abs ?z_all ?z_bool ?z_int ?z_isinstance ?z_len ?z_list ?z_max ?z_min ?z_range ?z_sum ?z_tuple ?z_zip ?c_ROUND ?h_ROUND ?c_LONGEST ?c_MOST_PLAY ?c_MOST_MOVES ?c_FARTHEST ?c_FAR
    (case a0 => k_is); (case l0 => k_is); (case e0 => k_is); (case k0 => k_is); (case a1 => k_is); (case l1 => k_is); (case e1 => k_is); (case k1 => k_is); (case a2 => k_is); (case l2 => k_is); (case e2 => k_is); (case k2 => k_is); (case a3 => k_is); (case l3 => k_is); (case e3 => k_is); (case k3 => k_is); (case a4 => k_is); (case l4 => k_is); (case e4 => k_is); (case k4 => k_is); (case a5 => k_is); (case l5 => k_is); (case e5 => k_is); (case k5 => k_is); (case a6 => k_is); (case l6 => k_is); (case e6 => k_is); (case k6 => k_is); (case a7 => k_is); (case l7 => k_is); (case e7 => k_is); (case k7 => k_is); (case a8 => k_is); (case l8 => k_is); (case e8 => k_is); (case k8 => k_is); (case a9 => k_is); (case l9 => k_is); (case e9 => k_is); (case k9 => k_is); (case a10 => k_is); (case l10 => k_is); (case e10 => k_is); (case k10 => k_is); (case a11 => k_is); (case l11 => k_is); (case e11 => k_is); (case k11 => k_is); (case a12 => k_is); (case l12 => k_is); (case e12 => k_is); (case k12 => k_is); (case a13 => k_is); (case l13 => k_is); (case e13 => k_is); (case k13 => k_is); (case a14 => k_is); (case l14 => k_is); (case e14 => k_is); (case k14 => k_is); (case c_Knob => k_is); (case cp => k_is); (case ch => k_is); (case co => k_is); (case ca => k_is); (case nf_own => k_is); (case nf_now => k_is); (case nf_past => k_is); (case nf_later => k_is); (case ao0 => k_is); (case io0 => k_is); (case lo0 => k_is); (case eo0 => k_is); (case ko0 => k_is); (case ao1 => k_is); (case io1 => k_is); (case lo1 => k_is); (case eo1 => k_is); (case ko1 => k_is); (case ao2 => k_is); (case io2 => k_is); (case lo2 => k_is); (case eo2 => k_is); (case ko2 => k_is); (case ao3 => k_is); (case io3 => k_is); (case mkm => k_is); (case mkk => k_is); (case lo3 => k_is); (case eo3 => k_is); (case ko3 => k_is); (case ao4 => k_is); (case io4 => k_is); (case lo4 => k_is); (case eo4 => k_is); (case ko4 => k_is); (case ao5 => k_is); (case lo5 => k_is); (case eo5 => k_is); (case ko5 => k_is); (case z_abs => k_is); (case z_all => k_is); (case z_bool => k_is); (case z_int => k_is); (case z_isinstance => k_is); (case z_len => k_is); (case z_list => k_is); (case z_max => k_is); (case z_min => k_is); (case z_range => k_is); (case z_sum => k_is); (case z_tuple => k_is); (case z_zip => k_is); (case c_ROUND => k_is); (case h_ROUND => k_is); (case c_LONGEST => k_is); (case c_MOST_PLAY => k_is); (case c_MOST_MOVES => k_is); (case c_FARTHEST => k_is); (case c_FAR => k_is)
