import PyProof.Rows.All
import Wide.All
import OpenK.AllK
import Wide.FinOn
import HandS.ForMost
import HandS.Lambda
import HandS.Exc
import HandS.WordsExc
import HandS.Deep
import HandS.Zip
import HandS.Comp
import HandS.TupAny
import HandS.TupMul
import HandS.Style
import HandS.IsInst
import HandS.Conv
import HandS.SortInts
import HandS.Strs
import HandS.SetFor
import HandS.Flow
import PyProof.WalksMore
import HandS.SortRule
import KE.SortData
import HandS.HotCalls
import HandS.ExcIs
import HandS.EndTab
import KE.KNestM
import KE.KDictZip
import HandS.ListItems
import HandS.Nested
import KE.GoesEnum
import PySem.Challenge.RW_turntracks_k78_whole_shafts_held
set_option Elab.async false
set_option linter.all false
set_option maxRecDepth 100000
namespace M
open PySem PySem.Spec PyProof.Rows L2

abbrev D := PyData
inductive R (α : Type) where
  | ok (a : α)
  | rz (c : Str)
  | bad
def R.bind {α β : Type} (r : R α) (f : α → R β) : R β := match r with
  | .ok a => f a
  | .rz c => .rz c
  | .bad => .bad
/-- the token that stands for the script -/
def SCR : D := .dict [(.none, .none)]

/-- a tuple of whose object it is known that it has no dict -/
def SqN (K : PySem.W.Frag) (G : Hp) (a : Addr) (xs : List V) : Prop := SqT K G a xs ∧ ((∃ o u, G a = some (.frz o u) ∧ o.cls = .type "tuple" ∧ o.dict = none) ∨ ∃ o, K.lookup a = some o ∧ o.cls = .type "tuple" ∧ o.dict = none)
/-- what a run knows from its start on: the script, and where the objects stand that have a number -/
structure Sc where
  l : List Int
  ad : Nat → Option Addr
/-- the token of the j-th object -/
abbrev OBJ (j : Nat) : D := .dict [(.bool false, .int j)]
mutual
inductive Q (K : PySem.W.Frag) (ns : Sc) (G : Hp) : V → D → Prop
  | non : Q K ns G .non .none
  | bl (b : Bool) : Q K ns G (.bl b) (.bool b)
  | int (i : Int) : Q K ns G (.int i) (.int i)
  | str (x : Str) : Q K ns G (.str x) (.str x)
  | lst {a : Addr} {xs : List V} {ds : List D} : G a = some (.lst xs) → QA K ns G xs ds → Q K ns G (.ref a) (.list ds)
  | tup {a : Addr} {xs : List V} {ds : List D} : SqT K G a xs → QA K ns G xs ds → Q K ns G (.ref a) (.tuple ds)
  | scr {a : Addr} : SqL K G a (ns.l.map V.int) → Q K ns G (.ref a) (.dict [(.none, .none)])
  | ntp {a : Addr} {ds : List D} (is : List Int) : SqN K G a (is.map V.int) → ds = is.map PyData.int → Q K ns G (.ref a) (.dict [(.bool true, .tuple ds)])
  | obj {a : Addr} {ds : List (D × D)} (j : Nat) : ns.ad j = some a → ds = [(.bool false, .int j)] → Q K ns G (.ref a) (.dict ds)
  | dk {a : Addr} {o : Obj} {ds : List (D × D)} (ks : List Int) : G a = some (.frz o (.dK (ks.map fun k => (Sum.inl k, V.bl true)))) → ds = ks.map (fun k => (.int k, .bool true)) → Q K ns G (.ref a) (.dict ds)
  | dt {a : Addr} {o : Obj} {ds : List (D × D)} (ks : List (List Int)) : G a = some (.frz o (.dT (ks.map fun k => (k.map Sum.inl, V.bl true)))) → ds = ks.map (fun k => (.tuple (k.map .int), .bool true)) → Q K ns G (.ref a) (.dict ds)
inductive QA (K : PySem.W.Frag) (ns : Sc) (G : Hp) : List V → List D → Prop
  | nil : QA K ns G [] []
  | cons {v : V} {vs : List V} {d : D} {ds : List D} : Q K ns G v d → QA K ns G vs ds → QA K ns G (v :: vs) (d :: ds)
end

theorem SqT.same {K : PySem.W.Frag} {H H' : Hp} {a : Addr} {xs : List V} (e : Same H H') (h : SqT K H a xs) : SqT K H' a xs := by
  rcases h with (h | ⟨o, h⟩) | h
  · exact .inl (.inl (e _ _ h))
  · exact .inl (.inr ⟨o, e _ _ h⟩)
  · exact .inr h

theorem SqN.same {K : PySem.W.Frag} {H H' : Hp} {a : Addr} {xs : List V} (e : Same H H') (h : SqN K H a xs) : SqN K H' a xs := by
  refine ⟨SqT.same e h.1, ?_⟩
  rcases h.2 with ⟨o, u, h1, h2⟩ | h
  · exact .inl ⟨o, u, e _ _ h1, h2⟩
  · exact .inr h
section
variable {K : PySem.W.Frag} {ns : Sc} {G G' : Hp}
mutual
theorem Q.mono (e : Same G G') : ∀ (d : D) (v : V), Q K ns G v d → Q K ns G' v d
  | .none, _, h => by cases h; exact .non
  | .bool _, _, h => by cases h; exact .bl _
  | .int _, _, h => by cases h; exact .int _
  | .str _, _, h => by cases h; exact .str _
  | .list ds, _, h => by cases h with | lst h1 h2 => exact .lst (e _ _ h1) (QA.mono e ds _ h2)
  | .tuple ds, _, h => by cases h with | tup h1 h2 => exact .tup (SqT.same e h1) (QA.mono e ds _ h2)
  | .dict _, _, h => by
    cases h with
    | scr h1 => exact .scr (e.seq h1)
    | ntp is h1 h2 => exact .ntp is (SqN.same e h1) h2
    | obj j h1 h2 => exact .obj j h1 h2
    | dk ks h1 h2 => exact .dk ks (e _ _ h1) h2
    | dt ks h1 h2 => exact .dt ks (e _ _ h1) h2
theorem QA.mono (e : Same G G') : ∀ (ds : List D) (vs : List V), QA K ns G vs ds → QA K ns G' vs ds
  | [], _, h => by cases h; exact .nil
  | d :: ds, _, h => by cases h with | cons h1 h2 => exact .cons (Q.mono e d _ h1) (QA.mono e ds _ h2)
end
theorem QA.length : ∀ {ds : List D} {vs : List V}, QA K ns G vs ds → vs.length = ds.length
  | [], _, h => by cases h; rfl
  | d :: ds, _, h => by cases h with | cons h1 h2 => simp [QA.length h2]
theorem QA.get : ∀ {ds : List D} {vs : List V} {i : Nat} {d : D}, QA K ns G vs ds → ds[i]? = some d → ∃ v, vs[i]? = some v ∧ Q K ns G v d
  | [], _, _, _, h, e => by simp at e
  | d :: ds, _, 0, _, h, e => by
    cases h with
    | cons h1 h2 => simp at e; subst e; exact ⟨_, rfl, h1⟩
  | d :: ds, _, i + 1, _, h, e => by
    cases h with
    | cons h1 h2 => exact QA.get (i := i) h2 (by simpa using e)
theorem QA.append : ∀ {ds es : List D} {vs us : List V}, QA K ns G vs ds → QA K ns G us es → QA K ns G (vs ++ us) (ds ++ es)
  | [], _, _, _, h, k => by cases h; exact k
  | d :: ds, _, _, _, h, k => by cases h with | cons h1 h2 => exact .cons h1 (QA.append h2 k)
theorem QA.drop : ∀ (n : Nat) {ds : List D} {vs : List V}, QA K ns G vs ds → QA K ns G (vs.drop n) (ds.drop n)
  | 0, _, _, h => h
  | n + 1, [], _, h => by cases h; exact .nil
  | n + 1, d :: ds, _, h => by cases h with | cons h1 h2 => exact QA.drop n h2
theorem QA.take : ∀ (n : Nat) {ds : List D} {vs : List V}, QA K ns G vs ds → QA K ns G (vs.take n) (ds.take n)
  | 0, _, _, h => .nil
  | n + 1, [], _, h => by cases h; exact .nil
  | n + 1, d :: ds, _, h => by cases h with | cons h1 h2 => exact .cons h1 (QA.take n h2)
theorem QA.set : ∀ (n : Nat) {ds : List D} {vs : List V} {v : V} {d : D}, QA K ns G vs ds → Q K ns G v d → QA K ns G (vs.set n v) (ds.set n d)
  | _, [], _, _, _, h, _ => by cases h; exact .nil
  | 0, d :: ds, _, _, _, h, k => by cases h with | cons h1 h2 => exact .cons k h2
  | n + 1, d :: ds, _, _, _, h, k => by cases h with | cons h1 h2 => exact .cons h1 (QA.set n h2 k)
theorem QA.rev {ds : List D} {vs : List V} (h : QA K ns G vs ds) : QA K ns G vs.reverse ds.reverse := by
  induction ds generalizing vs with
  | nil => cases h; exact .nil
  | cons d ds ih =>
    cases h with
    | cons h1 h2 =>
      rw [List.reverse_cons, List.reverse_cons]
      exact (ih h2).append (.cons h1 .nil)
theorem QA.ints {is : List Int} : QA K ns G (is.map V.int) (is.map PyData.int) := by
  induction is with
  | nil => exact .nil
  | cons i is ih => exact .cons (.int i) ih
end

/-! ### heaps -/
/-- what is frozen is there -/
def Sub (G H : Hp) : Prop := ∀ b o, G b = some o → H b = some o ∧ ∀ ps, o ≠ .tbl ps
/-- from which line on the law itself stands (0 is put in where the layer is joined) -/
def lawLine : Int := 0
/-- what the lambda at a place is called -/
def qof (p : Pos) : Str := if p.line < lawLine then "_law_done.<locals>.<lambda>" else "law.<locals>.<lambda>"
/-- the table at P: each code object that it tells bears the name of its place -/
def TabQ (H : Hp) (P : Addr) : Prop := ∃ ps : Array Value, H P = some (.tbl ps) ∧ TriplesOk ps.toList ∧ ∀ (pos : Pos) (cv : Value), codeAmong pos ps.toList = some cv → ∃ c, cv = .ref c ∧ H c = some (LamX.CodeO c (qof pos))
theorem TabQ.ext {H H' : Hp} {P : Addr} (t : TabQ H P) (e : ∀ b o, H b = some o → H' b = some o) : TabQ H' P := by
  obtain ⟨ps, h1, h2, h3⟩ := t
  exact ⟨ps, e _ _ h1, h2, fun pos cv hc => by
    obtain ⟨c, e1, e2⟩ := h3 pos cv hc
    exact ⟨c, e1, e _ _ e2⟩⟩
theorem TabQ.nil {H : Hp} {P : Addr} (h : H P = some (.tbl #[])) : TabQ H P := ⟨#[], h, True.intro, fun pos cv hc => by
  have z : codeAmong pos [] = some cv := hc
  simp [codeAmong] at z⟩
structure Ex (H H' : Hp) : Prop where
  keep : LamX.ExtN H H'
  tabs : ∀ T, TabQ H T → TabQ H' T
theorem Ex.of {H H' : Hp} (e : Same H H') : Ex H H' := ⟨LamX.ExtN.of e, fun _ t => t.ext e⟩
theorem Ex.refl (H : Hp) : Ex H H := .of (Same.refl H)
theorem Ex.trans {H H1 H2 : Hp} (a : Ex H H1) (b : Ex H1 H2) : Ex H H2 := ⟨a.keep.trans b.keep, fun T t => b.tabs T (a.tabs T t)⟩
theorem Sub.ex {G H H' : Hp} (s : Sub G H) (e : Ex H H') : Sub G H' := fun b o h => ⟨e.keep b o (s b o h).1 (s b o h).2, (s b o h).2⟩
theorem Sub.same {G H : Hp} (s : Sub G H) : Same G H := fun b o h => (s b o h).1
theorem Sub.free {G H : Hp} (s : Sub G H) {p : Addr} (h : H p = none) : G p = none := s.same.free h
theorem new_same {H : Hp} {p : Addr} {o : HO} (h : H p = none) : Same H (upd H p o) := fun b x e => by
  rw [upd_ne (ne_of_none e h)]
  exact e
structure Gr (G H G' H' : Hp) : Prop where
  g : Same G G'
  h : Ex H H'
  s : Sub G' H'
  n : ∀ a o, H a = some o → (∀ ps, o ≠ .tbl ps) → G a = none → G' a = none
theorem Gr.refl {G H : Hp} (s : Sub G H) : Gr G H G H := ⟨Same.refl G, Ex.refl H, s, fun _ _ _ _ h => h⟩
theorem Gr.trans {G H G1 H1 G2 H2 : Hp} (a : Gr G H G1 H1) (b : Gr G1 H1 G2 H2) : Gr G H G2 H2 :=
  ⟨a.g.trans b.g, a.h.trans b.h, b.s, fun x o hx ht gx => b.n x o (a.h.keep x o hx ht) ht (a.n x o hx ht gx)⟩
/-- a new object, frozen at once -/
theorem Gr.new {G H : Hp} {p : Addr} {o : HO} (s : Sub G H) (hp : H p = none) (ho : ∀ ps, o ≠ .tbl ps) : Gr G H (upd G p o) (upd H p o) :=
  ⟨new_same (s.free hp), .of (new_same hp), fun b u e => by
    by_cases hb : b = p
    · subst hb
      rw [upd_same] at e ⊢
      cases e
      exact ⟨rfl, ho⟩
    · rw [upd_ne hb] at e ⊢
      exact s b u e, fun a u ha _ ga => by rw [upd_ne (ne_of_none ha hp)]; exact ga⟩
/-- a new object, not frozen -/
theorem Gr.own {G H : Hp} {p : Addr} {o : HO} (s : Sub G H) (hp : H p = none) : Gr G H G (upd H p o) :=
  ⟨Same.refl G, .of (new_same hp), s.ex (.of (new_same hp)), fun _ _ _ _ ga => ga⟩
theorem nt_lst {xs : List V} (ps : Array Value) : HO.lst xs ≠ .tbl ps := fun z => nomatch z
theorem nt_tup {xs : List V} (ps : Array Value) : HO.tup xs ≠ .tbl ps := fun z => nomatch z

/-! ### slots -/
inductive Sl where
  | no
  | d (x : D)
  | o (xs : List D)
abbrev Rho := List Sl
structure Cm where
  ns : Sc
  G0 : Hp
  H0 : Hp
/-- not of those that stood at the entry -/
def Nw (H0 : Hp) (a : Addr) : Prop := ∀ o, H0 a = some o → (∀ ps, o ≠ .tbl ps) → False
section
variable (K : PySem.W.Frag) (c : Cm)
def SlOk (G H : Hp) : Sl → Option (Option V) → Prop
  | .no, _ => True
  | .d x, v => ∃ u, v = some (some u) ∧ Q K c.ns G u x
  | .o xs, v => ∃ a us, v = some (some (.ref a)) ∧ H a = some (.lst us) ∧ G a = none ∧ Nw c.H0 a ∧ QA K c.ns G us xs
structure Ok (G H : Hp) (ρ : Rho) (σ : L2.St) : Prop where
  s : Sub G H
  e : Gr c.G0 c.H0 G H
  len : ρ.length = σ.length
  sl : ∀ (i : Nat) (x : Sl), ρ[i]? = some x → SlOk K c G H x σ[i]?
  dj : ∀ (i j : Nat) (a : Addr) (xs ys : List D), ρ[i]? = some (.o xs) → ρ[j]? = some (.o ys) → σ[i]? = some (some (.ref a)) → σ[j]? = some (some (.ref a)) → i = j
end
section
variable {K : PySem.W.Frag} {c : Cm} {G H G' H' : Hp} {ρ : Rho} {σ : L2.St}
theorem SlOk.gr {x : Sl} {v : Option (Option V)} (h : SlOk K c G H x v) (g : Gr G H G' H') : SlOk K c G' H' x v := by
  cases x with
  | no => trivial
  | d x =>
    obtain ⟨u, e, q⟩ := h
    exact ⟨u, e, Q.mono g.g _ _ q⟩
  | o xs =>
    obtain ⟨a, us, e, ha, ga, h0, q⟩ := h
    exact ⟨a, us, e, g.h.keep a _ ha nt_lst, g.n a _ ha nt_lst ga, h0, QA.mono g.g _ _ q⟩
theorem Ok.gr (h : Ok K c G H ρ σ) (g : Gr G H G' H') : Ok K c G' H' ρ σ :=
  ⟨g.s, h.e.trans g, h.len, fun i x e => (h.sl i x e).gr g, h.dj⟩
theorem Ok.lt (h : Ok K c G H ρ σ) {i : Nat} {x : Sl} (e : ρ[i]? = some x) : i < σ.length := by
  rw [← h.len]
  exact (List.getElem?_eq_some_iff.mp e).1
/-- a slot takes data -/
theorem Ok.setD (h : Ok K c G H ρ σ) (i : Nat) {v : V} {d : D} (q : Q K c.ns G v d) : Ok K c G H (ρ.set i (.d d)) (σ.set i (some v)) := by
  refine ⟨h.s, h.e, by simp [h.len], fun j x e => ?_, fun j k a xs ys e1 e2 e3 e4 => ?_⟩
  · by_cases hj : i = j
    · subst hj
      by_cases hl : i < ρ.length
      · rw [List.getElem?_set_self hl] at e
        cases e
        rw [List.getElem?_set_self (by rw [← h.len]; exact hl)]
        exact ⟨v, rfl, q⟩
      · rw [List.getElem?_eq_none (by simp; omega)] at e
        cases e
    · rw [List.getElem?_set_ne hj] at e ⊢
      exact h.sl j x e
  · have n1 : i ≠ j := fun z => by
      subst z
      by_cases hl : i < ρ.length
      · rw [List.getElem?_set_self hl] at e1; cases e1
      · rw [List.getElem?_eq_none (by simp; omega)] at e1; cases e1
    have n2 : i ≠ k := fun z => by
      subst z
      by_cases hl : i < ρ.length
      · rw [List.getElem?_set_self hl] at e2; cases e2
      · rw [List.getElem?_eq_none (by simp; omega)] at e2; cases e2
    rw [List.getElem?_set_ne n1] at e1 e3
    rw [List.getElem?_set_ne n2] at e2 e4
    exact h.dj j k a xs ys e1 e2 e3 e4
/-- a slot takes a new list of its own -/
theorem Ok.setO (h : Ok K c G H ρ σ) (i : Nat) {p : Addr} {us : List V} {ds : List D} (hp : H p = none) (q : QA K c.ns G us ds) :
    Ok K c G (upd H p (.lst us)) (ρ.set i (.o ds)) (σ.set i (some (.ref p))) := by
  have hg : Gr G H G (upd H p (.lst us)) := Gr.own h.s hp
  have h1 := h.gr hg
  have h0 : Nw c.H0 p := fun o z ht => by
    rw [h.e.h.keep p o z ht] at hp
    cases hp
  refine ⟨h1.s, h1.e, by simp [h.len], fun j x e => ?_, fun j k a xs ys e1 e2 e3 e4 => ?_⟩
  · by_cases hj : i = j
    · subst hj
      by_cases hl : i < ρ.length
      · rw [List.getElem?_set_self hl] at e
        cases e
        rw [List.getElem?_set_self (by rw [← h.len]; exact hl)]
        exact ⟨p, us, rfl, upd_same, h.s.free hp, h0, q⟩
      · rw [List.getElem?_eq_none (by simp; omega)] at e
        cases e
    · rw [List.getElem?_set_ne hj] at e ⊢
      exact h1.sl j x e
  · have old : ∀ j xs a, i ≠ j → ρ[j]? = some (.o xs) → σ[j]? = some (some (.ref a)) → a ≠ p := fun j xs a _ e1 e2 z => by
      obtain ⟨b, us', e, hb, _⟩ := h.sl j _ e1
      rw [e2] at e
      cases e
      subst z
      rw [hp] at hb; cases hb
    by_cases hj : i = j
    · by_cases hk : i = k
      · omega
      · subst hj
        rw [List.getElem?_set_ne hk] at e2 e4
        have := old k ys a hk e2 e4
        by_cases hl : i < σ.length
        · rw [List.getElem?_set_self hl] at e3
          cases e3
          exact absurd rfl this
        · rw [List.getElem?_eq_none (by simp; omega)] at e3; cases e3
    · rw [List.getElem?_set_ne hj] at e1 e3
      by_cases hk : i = k
      · subst hk
        have := old j xs a hj e1 e3
        by_cases hl : i < σ.length
        · rw [List.getElem?_set_self hl] at e4
          cases e4
          exact absurd rfl this
        · rw [List.getElem?_eq_none (by simp; omega)] at e4; cases e4
      · rw [List.getElem?_set_ne hk] at e2 e4
        exact h.dj j k a xs ys e1 e2 e3 e4
end
end M

namespace M
open PySem PySem.Spec PyProof.Rows L2

theorem PE.imp {X : Cx} {e : Expr} {t t' : TE} (h : PE X e t) (i : ∀ σ H Q, t' σ H Q → t σ H Q) : PE X e t' := ⟨fun pins s σ H Q I hw => h.run pins s σ H Q I (i σ H Q hw)⟩
theorem PT.imp {X : Cx} {e : Expr} {t t' : TT} (h : PT X e t) (i : ∀ σ H Q, t' σ H Q → t σ H Q) : PT X e t' := ⟨fun pins s σ H Q I hw => h.run pins s σ H Q I (i σ H Q hw)⟩
theorem PW.imp {X : Cx} {e : Expr} {t t' : TT} (h : PW X e t) (i : ∀ σ H Q, t' σ H Q → t σ H Q) : PW X e t' := ⟨fun wh pins s σ H Q I hw => h.run wh pins s σ H Q I (i σ H Q hw)⟩
theorem PA.imp {X : Cx} {e : List Expr} {t t' : TA} (h : PA X e t) (i : ∀ σ H Q, t' σ H Q → t σ H Q) : PA X e t' := ⟨fun p pins s σ H Q I hw => h.run p pins s σ H Q I (i σ H Q hw)⟩
theorem PS.imp {X : Cx} {e : Stmt} {t t' : TS} (h : PS X e t) (i : ∀ D σ H, t' D σ H → t D σ H) : PS X e t' := ⟨fun pins s σ H Q I hw => h.run pins s σ H Q I (i Q σ H hw)⟩
theorem PSs.imp {X : Cx} {e : List Stmt} {t t' : TS} (h : PSs X e t) (i : ∀ D σ H, t' D σ H → t D σ H) : PSs X e t' := ⟨fun pins s σ H Q I hw => h.run pins s σ H Q I (i Q σ H hw)⟩

abbrev WM := Str → L2.St → Hp → Prop
/-- nothing may be raised -/
abbrev W0 : WM := fun _ _ _ => False

def B (K : PySem.W.Frag) (ns : Sc) (G H : Hp) (v : V) (d : D) : Prop := Q K ns G v d ∨ ∃ a us ds, v = .ref a ∧ d = .list ds ∧ H a = some (.lst us) ∧ QA K ns G us ds
inductive BA (K : PySem.W.Frag) (ns : Sc) (G H : Hp) : List V → List D → Prop
  | nil : BA K ns G H [] []
  | cons {v : V} {vs : List V} {d : D} {ds : List D} : B K ns G H v d → BA K ns G H vs ds → BA K ns G H (v :: vs) (d :: ds)
section
variable {K : PySem.W.Frag} {ns : Sc} {G H G' H' : Hp}
theorem B.gr {v : V} {d : D} (h : B K ns G H v d) (g : Gr G H G' H') : B K ns G' H' v d := by
  rcases h with h | ⟨a, us, ds, e1, e2, e3, e4⟩
  · exact .inl (Q.mono g.g _ _ h)
  · exact .inr ⟨a, us, ds, e1, e2, g.h.keep a _ e3 nt_lst, QA.mono g.g _ _ e4⟩
theorem BA.gr {vs : List V} {ds : List D} (h : BA K ns G H vs ds) (g : Gr G H G' H') : BA K ns G' H' vs ds := by
  induction h with
  | nil => exact .nil
  | cons h _ ih => exact .cons (h.gr g) ih
theorem B.int {v : V} {i : Int} (h : B K ns G H v (.int i)) : v = .int i := by
  rcases h with h | ⟨a, us, ds, e1, e2, _⟩
  · cases h; rfl
  · cases e2
theorem B.bool {v : V} {b : Bool} (h : B K ns G H v (.bool b)) : v = .bl b := by
  rcases h with h | ⟨a, us, ds, e1, e2, _⟩
  · cases h; rfl
  · cases e2
theorem B.str {v : V} {x : Str} (h : B K ns G H v (.str x)) : v = .str x := by
  rcases h with h | ⟨a, us, ds, e1, e2, _⟩
  · cases h; rfl
  · cases e2
theorem B.none {v : V} (h : B K ns G H v .none) : v = .non := by
  rcases h with h | ⟨a, us, ds, e1, e2, _⟩
  · cases h; rfl
  · cases e2
theorem B.list {v : V} {ds : List D} (s : Sub G H) (h : B K ns G H v (.list ds)) : ∃ a us, v = .ref a ∧ H a = some (.lst us) ∧ QA K ns G us ds := by
  rcases h with h | ⟨a, us, ds', e1, e2, e3, e4⟩
  · cases h with | lst h1 h2 => exact ⟨_, _, rfl, (s _ _ h1).1, h2⟩
  · cases e2; exact ⟨a, us, e1, e3, e4⟩
theorem B.tuple {v : V} {ds : List D} (s : Sub G H) (h : B K ns G H v (.tuple ds)) : ∃ a us, v = .ref a ∧ SqT K H a us ∧ QA K ns G us ds ∧ SqT K G a us := by
  rcases h with h | ⟨a, us, ds', e1, e2, e3, e4⟩
  · cases h with | tup h1 h2 => exact ⟨_, _, rfl, SqT.same s.same h1, h2, h1⟩
  · cases e2
end

section
variable (K : PySem.W.Frag) (c : Cm) (W : WM)
def Post {α β : Type} (Rel : Hp → Hp → β → α → Prop) (G H : Hp) (σ : L2.St) (Qk : β → Hp → Prop) : R α → Prop
  | .ok a => ∀ G' H' v, Gr G H G' H' → Rel G' H' v a → Qk v H'
  | .rz z => ∀ G' H', Gr G H G' H' → W z σ H'
  | .bad => False
def tR {α β : Type} (Rel : Hp → Hp → β → α → Prop) (f : Rho → R α) : L2.St → Hp → (β → Hp → Prop) → Prop := fun σ H Qk => ∃ G ρ, Ok K c G H ρ σ ∧ Post W Rel G H σ Qk (f ρ)
end
abbrev RelQ (K : PySem.W.Frag) (ns : Sc) : Hp → Hp → V → D → Prop := fun G _ v d => Q K ns G v d
abbrev RelB (K : PySem.W.Frag) (ns : Sc) : Hp → Hp → V → D → Prop := fun G H v d => B K ns G H v d
abbrev RelQA (K : PySem.W.Frag) (ns : Sc) : Hp → Hp → List V → List D → Prop := fun G _ v d => QA K ns G v d
abbrev RelBA (K : PySem.W.Frag) (ns : Sc) : Hp → Hp → List V → List D → Prop := fun G H v d => BA K ns G H v d
abbrev RelT : Hp → Hp → Bool → Bool → Prop := fun _ _ b b' => b = b'
abbrev ME (X : Cx) (c : Cm) (W : WM) (e : Expr) (f : Rho → R D) : Prop := PE X e (tR X.K c W (RelQ X.K c.ns) f)
abbrev MB (X : Cx) (c : Cm) (W : WM) (e : Expr) (f : Rho → R D) : Prop := PE X e (tR X.K c W (RelB X.K c.ns) f)
abbrev MA (X : Cx) (c : Cm) (W : WM) (e : List Expr) (f : Rho → R (List D)) : Prop := PA X e (tR X.K c W (RelQA X.K c.ns) f)
abbrev MBA (X : Cx) (c : Cm) (W : WM) (e : List Expr) (f : Rho → R (List D)) : Prop := PA X e (tR X.K c W (RelBA X.K c.ns) f)
abbrev MT (X : Cx) (c : Cm) (W : WM) (e : Expr) (f : Rho → R Bool) : Prop := PT X e (tR X.K c W RelT f)
abbrev MW (X : Cx) (c : Cm) (W : WM) (e : Expr) (f : Rho → R Bool) : Prop := PW X e (tR X.K c W RelT f)

section
variable {K : PySem.W.Frag} {c : Cm} {W : WM} {G H G' H' : Hp} {σ : L2.St} {ρ : Rho} {α β γ δ : Type} {Rel : Hp → Hp → β → α → Prop} {Rel2 : Hp → Hp → δ → γ → Prop}
theorem Post.gr {Qk : β → Hp → Prop} {r : R α} (h : Post W Rel G H σ Qk r) (g : Gr G H G' H') : Post W Rel G' H' σ Qk r := by
  cases r with
  | ok a => exact fun G2 H2 v g2 q => h G2 H2 v (g.trans g2) q
  | rz z => exact fun G2 H2 g2 => h G2 H2 (g.trans g2)
  | bad => exact h
theorem step {f : Rho → R α} {F : α → R γ} {Qk : δ → Hp → Prop} {k : β → Hp → Prop} (ok : Ok K c G H ρ σ) (h : Post W Rel2 G H σ Qk ((f ρ).bind F))
    (hk : ∀ a G' H' v, f ρ = .ok a → Gr G H G' H' → Rel G' H' v a → Ok K c G' H' ρ σ → Post W Rel2 G' H' σ Qk (F a) → k v H') : tR K c W Rel f σ H k := by
  refine ⟨G, ρ, ok, ?_⟩
  cases e : f ρ with
  | ok a =>
    rw [e] at h
    exact fun G' H' v g r => hk a G' H' v e g r (ok.gr g) (Post.gr (r := F a) h g)
  | rz z => rw [e] at h; exact h
  | bad => rw [e] at h; exact h.elim
/-- the last one, handing on its answer -/
theorem stepL {f : Rho → R α} {Qk : δ → Hp → Prop} {k : β → Hp → Prop} {T : α → γ} (ok : Ok K c G H ρ σ) (h : Post W Rel2 G H σ Qk ((f ρ).bind fun a => .ok (T a)))
    (hk : ∀ a G' H' v, f ρ = .ok a → Gr G H G' H' → Rel G' H' v a → Ok K c G' H' ρ σ → (∀ u, Rel2 G' H' u (T a) → Qk u H') → k v H') : tR K c W Rel f σ H k :=
  step ok h fun a G' H' v e g r ok' h' => hk a G' H' v e g r ok' fun u ru => h' G' H' u (Gr.refl ok'.s) ru
end

/-! ### names, constants -/
def nm (i : Nat) : Rho → R D := fun ρ => match ρ[i]? with
  | some (.d x) => .ok x
  | _ => .bad
def bnm (i : Nat) : Rho → R D := fun ρ => match ρ[i]? with
  | some (.d x) => .ok x
  | some (.o xs) => .ok (.list xs)
  | _ => .bad
def cst {α : Type} (x : α) : Rho → R α := fun _ => .ok x
def R.of {α : Type} : Option α → R α
  | some a => .ok a
  | none => .bad
section
variable {X : Cx} {c : Cm} {W : WM}
theorem me_name (i : Nat) {e : Expr} (h : PE X e (tVar i)) : ME X c W e (nm i) := PE.imp h fun σ H Qk ⟨G, ρ, ok, p⟩ => by
  unfold nm at p
  cases e1 : ρ[i]? with
  | none => rw [e1] at p; exact p.elim
  | some x =>
    cases x with
    | no => rw [e1] at p; exact p.elim
    | o xs => rw [e1] at p; exact p.elim
    | d x =>
      rw [e1] at p
      obtain ⟨u, e2, q⟩ := ok.sl i _ e1
      exact ⟨u, e2, p G H u (Gr.refl ok.s) q⟩
theorem mb_name (i : Nat) {e : Expr} (h : PE X e (tVar i)) : MB X c W e (bnm i) := PE.imp h fun σ H Qk ⟨G, ρ, ok, p⟩ => by
  unfold bnm at p
  cases e1 : ρ[i]? with
  | none => rw [e1] at p; exact p.elim
  | some x =>
    cases x with
    | no => rw [e1] at p; exact p.elim
    | o xs =>
      rw [e1] at p
      obtain ⟨a, us, e2, ha, _, _, q⟩ := ok.sl i _ e1
      exact ⟨_, e2, p G H _ (Gr.refl ok.s) (.inr ⟨a, us, xs, rfl, rfl, ha, q⟩)⟩
    | d x =>
      rw [e1] at p
      obtain ⟨u, e2, q⟩ := ok.sl i _ e1
      exact ⟨u, e2, p G H u (Gr.refl ok.s) (.inl q)⟩
theorem mb {e : Expr} {f : Rho → R D} (h : ME X c W e f) : MB X c W e f := PE.imp h fun σ H Qk ⟨G, ρ, ok, p⟩ => ⟨G, ρ, ok, by
  cases e : f ρ with
  | ok a => rw [e] at p; exact fun G' H' v g q => p G' H' v g (.inl q)
  | rz z => rw [e] at p; exact p
  | bad => rw [e] at p; exact p⟩
theorem me_cst {e : Expr} {v : V} {d : D} (h : PE X e (tC v)) (q : ∀ G, Q X.K c.ns G v d) : ME X c W e (cst d) := PE.imp h fun σ H Qk ⟨G, ρ, ok, p⟩ => p G H v (Gr.refl ok.s) (q G)
theorem me_int {i j pos} : ME X c W (.Constant (.int i) j pos) (cst (.int i)) := me_cst pe_int fun _ => .int i
theorem me_bl {b j pos} : ME X c W (.Constant (.bool b) j pos) (cst (.bool b)) := me_cst pe_bl fun _ => .bl b
theorem me_non {j pos} : ME X c W (.Constant .none j pos) (cst .none) := me_cst pe_non fun _ => .non
theorem me_str {x j pos} : ME X c W (.Constant (.str x) j pos) (cst (.str x)) := me_cst pe_str fun _ => .str x

/-! ### operators -/
def e2 {α β γ : Type} (o : α → β → Option γ) (f : Rho → R α) (g : Rho → R β) : Rho → R γ := fun ρ => (f ρ).bind fun x => (g ρ).bind fun y => R.of (o x y)
def e1 {α β : Type} (o : α → Option β) (f : Rho → R α) : Rho → R β := fun ρ => (f ρ).bind fun x => R.of (o x)
def OpD (X : Cx) (ns : Sc) (r : R2) (o : D → D → Option D) : Prop := ∀ (G H : Hp) (v w : V) (x y d : D) (Qk : VK), o x y = some d → Sub G H → B X.K ns G H v x → B X.K ns G H w y → (∀ G' H' u, Gr G H G' H' → Q X.K ns G' u d → Qk u H') → r v w H Qk
def CmD (X : Cx) (ns : Sc) (r : R2) (o : D → D → Option Bool) : Prop := ∀ (G H : Hp) (v w : V) (x y : D) (b : Bool) (Qk : VK), o x y = some b → Sub G H → B X.K ns G H v x → B X.K ns G H w y → (∀ G' H', Gr G H G' H' → Qk (.bl b) H') → r v w H Qk
theorem me_op {op : Operator} {r : R2} {o : D → D → Option D} {a b : Expr} {f g : Rho → R D} {pos : Pos} (ho : OpR X (binaryOp op) r) (hr : OpD X c.ns r o) (ha : MB X c W a f) (hb : MB X c W b g) : ME X c W (.BinOp a op b pos) (e2 o f g) :=
  PE.imp (pe_op ho ha hb) fun σ H Qk ⟨G, ρ, ok, p⟩ => step ok p fun x G1 H1 v _ g1 r1 ok1 p1 => step ok1 p1 fun y G2 H2 w _ g2 r2 ok2 p2 => by
    cases e : o x y with
    | none => rw [e] at p2; exact p2.elim
    | some d =>
      rw [e] at p2
      exact hr G2 H2 v w x y d Qk e ok2.s (r1.gr g2) r2 p2
theorem me_ix {r : R2} {o : D → D → Option D} {a b : Expr} {f g : Rho → R D} {pos : Pos} (ho : IxR X r) (hr : OpD X c.ns r o) (ha : MB X c W a f) (hb : MB X c W b g) (hs : PlainIx b) : ME X c W (.Subscript a b pos) (e2 o f g) :=
  PE.imp (pe_ix ho ha hb hs) fun σ H Qk ⟨G, ρ, ok, p⟩ => step ok p fun x G1 H1 v _ g1 r1 ok1 p1 => step ok1 p1 fun y G2 H2 w _ g2 r2 ok2 p2 => by
    cases e : o x y with
    | none => rw [e] at p2; exact p2.elim
    | some d =>
      rw [e] at p2
      exact hr G2 H2 v w x y d Qk e ok2.s (r1.gr g2) r2 p2
theorem mt_cmp {op : CmpOp} {r : R2} {o : D → D → Option Bool} {a b : Expr} {f g : Rho → R D} {pos : Pos} (ho : OpR X (compareOp op) r) (hr : CmD X c.ns r o) (ha : MB X c W a f) (hb : MB X c W b g) (hm : behindInMarks op b = false) : MT X c W (.Compare a [op] [b] pos) (e2 o f g) :=
  PT.imp (pt_cmpR ho ha hb hm) fun σ H Qk ⟨G, ρ, ok, p⟩ => step ok p fun x G1 H1 v _ g1 r1 ok1 p1 => step ok1 p1 fun y G2 H2 w _ g2 r2 ok2 p2 => by
    cases e : o x y with
    | none => rw [e] at p2; exact p2.elim
    | some d =>
      rw [e] at p2
      exact hr G2 H2 v w x y d _ e ok2.s (r1.gr g2) r2 fun G' H' g' => ⟨d, rfl, p2 G' H' d g' rfl⟩
/-- a truth as a value -/
def bv (f : Rho → R Bool) : Rho → R D := fun ρ => (f ρ).bind fun b => .ok (.bool b)
theorem me_cmp {op : CmpOp} {r : R2} {o : D → D → Option Bool} {a b : Expr} {f g : Rho → R D} {pos : Pos} (ho : OpR X (compareOp op) r) (hr : CmD X c.ns r o) (ha : MB X c W a f) (hb : MB X c W b g) (hm : behindInMarks op b = false) : ME X c W (.Compare a [op] [b] pos) (bv (e2 o f g)) :=
  PE.imp (pe_cmpR ho ha hb hm) fun σ H Qk ⟨G, ρ, ok, p⟩ => by
    have p' : Post W (RelQ X.K c.ns) G H σ Qk ((f ρ).bind fun x => (g ρ).bind fun y => (R.of (o x y)).bind fun b => .ok (.bool b)) := by
      have e : bv (e2 o f g) ρ = ((f ρ).bind fun x => (g ρ).bind fun y => (R.of (o x y)).bind fun b => .ok (.bool b)) := by
        unfold bv e2
        cases f ρ with
        | ok x => cases g ρ <;> rfl
        | rz _ => rfl
        | bad => rfl
      rw [← e]
      exact p
    exact step ok p' fun x G1 H1 v _ g1 r1 ok1 p1 => step ok1 p1 fun y G2 H2 w _ g2 r2 ok2 p2 => by
      cases e : o x y with
      | none => rw [e] at p2; exact p2.elim
      | some d =>
        rw [e] at p2
        exact hr G2 H2 v w x y d _ e ok2.s (r1.gr g2) r2 fun G' H' g' => p2 G' H' _ g' (.bl d)

/-! ### truth -/
def asB : D → Option Bool
  | .bool b => some b
  | _ => none
/-- an expression that gives True or False, as a test -/
theorem mt_val {e : Expr} {f : Rho → R D} (h : MB X c W e f) (he : ∀ whole, isTrue e X.env whole = (do let v ← whole; standAt e.pos; holding [v] (truthy v)) := by intro _; rfl) : MT X c W e (e1 asB f) :=
  PT.imp (pt_val h he) fun σ H Qk ⟨G, ρ, ok, p⟩ => step ok p fun x G1 H1 v _ g1 r1 ok1 p1 => by
    cases x with
    | bool b =>
      obtain rfl := r1.bool
      exact ⟨b, rfl, p1 G1 H1 b (Gr.refl ok1.s) rfl⟩
    | _ => exact p1.elim
def andT (f g : Rho → R Bool) : Rho → R Bool := fun ρ => (f ρ).bind fun b => if b then g ρ else .ok false
def orT (f g : Rho → R Bool) : Rho → R Bool := fun ρ => (f ρ).bind fun b => if b then .ok true else g ρ
def notT (f : Rho → R Bool) : Rho → R Bool := fun ρ => (f ρ).bind fun b => .ok (!b)
theorem post_same {β α : Type} {Rel : Hp → Hp → β → α → Prop} {G H : Hp} {σ : L2.St} {Qk : β → Hp → Prop} {f : Rho → R α} {ρ : Rho} (ok : Ok X.K c G H ρ σ) (h : Post W Rel G H σ Qk (f ρ)) : tR X.K c W Rel f σ H Qk := ⟨G, ρ, ok, h⟩
theorem mw_and1 {a : Expr} {pos : Pos} {f : Rho → R Bool} (h : MT X c W a f) : MW X c W (.BoolOp .And [a] pos) f := pw_and1 h
theorem mw_or1 {a : Expr} {pos : Pos} {f : Rho → R Bool} (h : MT X c W a f) : MW X c W (.BoolOp .Or [a] pos) f := pw_or1 h
theorem mw_and {a b : Expr} {rest : List Expr} {pos : Pos} {f g : Rho → R Bool} (ha : MT X c W a f) (hb : MW X c W (.BoolOp .And (b :: rest) pos) g) : MW X c W (.BoolOp .And (a :: b :: rest) pos) (andT f g) :=
  PW.imp (pw_and ha hb) fun σ H Qk ⟨G, ρ, ok, p⟩ => step ok p fun x G1 H1 v _ g1 r1 ok1 p1 => by
    subst r1
    cases v with
    | true => exact post_same ok1 p1
    | false => exact p1 G1 H1 false (Gr.refl ok1.s) rfl
theorem mw_or {a b : Expr} {rest : List Expr} {pos : Pos} {f g : Rho → R Bool} (ha : MT X c W a f) (hb : MW X c W (.BoolOp .Or (b :: rest) pos) g) : MW X c W (.BoolOp .Or (a :: b :: rest) pos) (orT f g) :=
  PW.imp (pw_or ha hb) fun σ H Qk ⟨G, ρ, ok, p⟩ => step ok p fun x G1 H1 v _ g1 r1 ok1 p1 => by
    subst r1
    cases v with
    | false => exact post_same ok1 p1
    | true => exact p1 G1 H1 true (Gr.refl ok1.s) rfl
theorem mt_w {e : Expr} {f : Rho → R Bool} (h : MW X c W e f) : MT X c W e f := PW.pt h
theorem mt_not {a : Expr} {pos : Pos} {f : Rho → R Bool} (ha : MT X c W a f) : MT X c W (.UnaryOp .Not a pos) (notT f) :=
  PT.imp (pt_not ha) fun σ H Qk ⟨G, ρ, ok, p⟩ => step ok p fun x G1 H1 v _ g1 r1 ok1 p1 => by
    subst r1
    exact p1 G1 H1 _ (Gr.refl ok1.s) rfl
/-- .. as values; all but the last True or False -/
def andV (f g : Rho → R D) : Rho → R D := fun ρ => (f ρ).bind fun x => match x with
  | .bool true => g ρ
  | .bool false => .ok (.bool false)
  | _ => .bad
def orV (f g : Rho → R D) : Rho → R D := fun ρ => (f ρ).bind fun x => match x with
  | .bool true => .ok (.bool true)
  | .bool false => g ρ
  | _ => .bad
def notV (f : Rho → R D) : Rho → R D := fun ρ => (f ρ).bind fun x => match x with
  | .bool b => .ok (.bool !b)
  | _ => .bad
theorem me_one {op} {a : Expr} {pos : Pos} {f : Rho → R D} (h : ME X c W a f) : ME X c W (.BoolOp op [a] pos) f := pe_one h
theorem me_and {a b : Expr} {rest : List Expr} {pos : Pos} {f g : Rho → R D} (ha : MB X c W a f) (hb : ME X c W (.BoolOp .And (b :: rest) pos) g) : ME X c W (.BoolOp .And (a :: b :: rest) pos) (andV f g) :=
  PE.imp (pe_and ha hb) fun σ H Qk ⟨G, ρ, ok, p⟩ => step ok p fun x G1 H1 v _ g1 r1 ok1 p1 => by
    cases x with
    | bool b =>
      obtain rfl := r1.bool
      refine ⟨b, rfl, ?_⟩
      cases b with
      | true => exact post_same ok1 p1
      | false => exact p1 G1 H1 _ (Gr.refl ok1.s) (.bl false)
    | _ => exact p1.elim
theorem me_or {a b : Expr} {rest : List Expr} {pos : Pos} {f g : Rho → R D} (ha : MB X c W a f) (hb : ME X c W (.BoolOp .Or (b :: rest) pos) g) : ME X c W (.BoolOp .Or (a :: b :: rest) pos) (orV f g) :=
  PE.imp (pe_or ha hb) fun σ H Qk ⟨G, ρ, ok, p⟩ => step ok p fun x G1 H1 v _ g1 r1 ok1 p1 => by
    cases x with
    | bool b =>
      obtain rfl := r1.bool
      refine ⟨b, rfl, ?_⟩
      cases b with
      | false => exact post_same ok1 p1
      | true => exact p1 G1 H1 _ (Gr.refl ok1.s) (.bl true)
    | _ => exact p1.elim
theorem me_not {a : Expr} {pos : Pos} {f : Rho → R D} (ha : MB X c W a f) : ME X c W (.UnaryOp .Not a pos) (notV f) :=
  PE.imp (pe_not ha) fun σ H Qk ⟨G, ρ, ok, p⟩ => step ok p fun x G1 H1 v _ g1 r1 ok1 p1 => by
    cases x with
    | bool b =>
      obtain rfl := r1.bool
      exact ⟨b, rfl, p1 G1 H1 _ (Gr.refl ok1.s) (.bl _)⟩
    | _ => exact p1.elim
def ifE {α : Type} (t : Rho → R Bool) (f g : Rho → R α) : Rho → R α := fun ρ => (t ρ).bind fun b => if b then f ρ else g ρ
theorem me_if {t a b : Expr} {pos : Pos} {ft : Rho → R Bool} {f g : Rho → R D} (ht : MT X c W t ft) (ha : ME X c W a f) (hb : ME X c W b g) : ME X c W (.IfExp t a b pos) (ifE ft f g) :=
  PE.imp (pe_ifExp ht ha hb) fun σ H Qk ⟨G, ρ, ok, p⟩ => step ok p fun x G1 H1 v _ g1 r1 ok1 p1 => by
    subst r1
    cases v with
    | true => exact post_same ok1 p1
    | false => exact post_same ok1 p1
theorem mb_if {t a b : Expr} {pos : Pos} {ft : Rho → R Bool} {f g : Rho → R D} (ht : MT X c W t ft) (ha : MB X c W a f) (hb : MB X c W b g) : MB X c W (.IfExp t a b pos) (ifE ft f g) :=
  PE.imp (pe_ifExp ht ha hb) fun σ H Qk ⟨G, ρ, ok, p⟩ => step ok p fun x G1 H1 v _ g1 r1 ok1 p1 => by
    subst r1
    cases v with
    | true => exact post_same ok1 p1
    | false => exact post_same ok1 p1
/-! ### argument lists, displays -/
def cons' (f : Rho → R D) (g : Rho → R (List D)) : Rho → R (List D) := fun ρ => (f ρ).bind fun x => (g ρ).bind fun xs => .ok (x :: xs)
theorem ma_nil : MA X c W [] (cst []) := PA.imp pa_nil fun σ H Qk ⟨G, ρ, ok, p⟩ => p G H [] (Gr.refl ok.s) .nil
theorem mba_nil : MBA X c W [] (cst []) := PA.imp pa_nil fun σ H Qk ⟨G, ρ, ok, p⟩ => p G H [] (Gr.refl ok.s) .nil
theorem ma_cons {e : Expr} {es : List Expr} {f : Rho → R D} {g : Rho → R (List D)} (ha : ME X c W e f) (hr : MA X c W es g) (hs : starEach (e :: es) X.env = (false, eval e X.env) :: starEach es X.env := by rfl) : MA X c W (e :: es) (cons' f g) :=
  PA.imp (pa_cons ha hr hs) fun σ H Qk ⟨G, ρ, ok, p⟩ => step ok p fun x G1 H1 v _ g1 r1 ok1 p1 => step ok1 p1 fun y G2 H2 w _ g2 r2 ok2 p2 =>
    p2 G2 H2 _ (Gr.refl ok2.s) (.cons (Q.mono g2.g _ _ r1) r2)
theorem mba_cons {e : Expr} {es : List Expr} {f : Rho → R D} {g : Rho → R (List D)} (ha : MB X c W e f) (hr : MBA X c W es g) (hs : starEach (e :: es) X.env = (false, eval e X.env) :: starEach es X.env := by rfl) : MBA X c W (e :: es) (cons' f g) :=
  PA.imp (pa_cons ha hr hs) fun σ H Qk ⟨G, ρ, ok, p⟩ => step ok p fun x G1 H1 v _ g1 r1 ok1 p1 => step ok1 p1 fun y G2 H2 w _ g2 r2 ok2 p2 =>
    p2 G2 H2 _ (Gr.refl ok2.s) (.cons (r1.gr g2) r2)
def tupE (g : Rho → R (List D)) : Rho → R D := fun ρ => (g ρ).bind fun xs => if xs.length ≤ 1000000 then .ok (.tuple xs) else .bad
def lstE (g : Rho → R (List D)) : Rho → R D := fun ρ => (g ρ).bind fun xs => if xs.length ≤ 1000000 then .ok (.list xs) else .bad
theorem sz {n : Nat} (h : n ≤ 1000000) : n ≤ sizeLine := Nat.le_trans h (by decide)
theorem szl {n : Nat} (h : n < 1000000) : n < sizeLine := Nat.lt_of_lt_of_le h (by decide)
theorem me_tup {es : List Expr} {k : Nat} {pos : Pos} {g : Rho → R (List D)} (h : MA X c W es g) : ME X c W (.Tuple es k pos) (tupE g) :=
  PE.imp (pe_tup h) fun σ H Qk ⟨G, ρ, ok, p⟩ => step ok p fun xs G1 H1 vs _ g1 r1 ok1 p1 => by
    by_cases hl : xs.length ≤ 1000000
    · rw [if_pos hl] at p1
      exact ⟨by rw [r1.length]; exact sz hl, fun q hq => p1 _ _ _ (Gr.new ok1.s hq nt_tup) (.tup (.inl (.inl upd_same)) (QA.mono (new_same (ok1.s.free hq)) _ _ r1))⟩
    · rw [if_neg hl] at p1; exact p1.elim
theorem me_lst {es : List Expr} {pos : Pos} {g : Rho → R (List D)} (h : MA X c W es g) : ME X c W (.List es pos) (lstE g) :=
  PE.imp (pe_lst h) fun σ H Qk ⟨G, ρ, ok, p⟩ => step ok p fun xs G1 H1 vs _ g1 r1 ok1 p1 => by
    by_cases hl : xs.length ≤ 1000000
    · rw [if_pos hl] at p1
      exact ⟨by rw [r1.length]; exact sz hl, fun q hq => p1 _ _ _ (Gr.new ok1.s hq nt_lst) (.lst upd_same (QA.mono (new_same (ok1.s.free hq)) _ _ r1))⟩
    · rw [if_neg hl] at p1; exact p1.elim
/-! ### calls of built-ins -/
def CaD (X : Cx) (ns : Sc) (r : List V → Hp → VK → Prop) (o : List D → Option D) : Prop := ∀ (G H : Hp) (vs : List V) (ds : List D) (d : D) (Qk : VK), o ds = some d → Sub G H → BA X.K ns G H vs ds → (∀ G' H' u, Gr G H G' H' → Q X.K ns G' u d → Qk u H') → r vs H Qk
theorem me_callB {id : String} {r : List V → Hp → VK → Prop} {o : List D → Option D} {x : Str} {e : Expr} {es : List Expr} {g : Rho → R (List D)} {p pos : Pos} (hc : CallR X (.builtin id) r) (hr : CaD X c.ns r o) (hg : Gl X x) (hm : X.mg x = none) (hv : bootBuiltins x = some (.builtin id)) (ha : MBA X c W (e :: es) g)
    (hn : x ≠ "__name__" := by decide) (hdb : (x == ("__debug__" : Str)) = false := by decide) (he : starEach (e :: es) X.env = (false, eval e X.env) :: starEach es X.env := by rfl) (hpl : (backTo pos (starEach es X.env)).any (·.1) = false := by rfl) :
    ME X c W (.Call (.Name x p) (e :: es) [] pos) (e1 o g) :=
  PE.imp (pe_callB hc hg hm hv ha hn hdb he hpl) fun σ H Qk ⟨G, ρ, ok, p⟩ => step ok p fun xs G1 H1 vs _ g1 r1 ok1 p1 => by
    cases e : o xs with
    | none => rw [e] at p1; exact p1.elim
    | some d =>
      rw [e] at p1
      exact hr G1 H1 vs xs d Qk e ok1.s r1 p1
theorem me_callTy {T : String} {r : List V → Hp → VK → Prop} {o : List D → Option D} {x : Str} {e : Expr} {es : List Expr} {g : Rho → R (List D)} {p pos : Pos} (hc : CallR X (.type T) r) (hr : CaD X c.ns r o) (hg : Gl X x) (hm : X.mg x = none) (hv : bootBuiltins x = some (.type T)) (ha : MBA X c W (e :: es) g)
    (hn : x ≠ "__name__" := by decide) (hdb : (x == ("__debug__" : Str)) = false := by decide) (he : starEach (e :: es) X.env = (false, eval e X.env) :: starEach es X.env := by rfl) (hpl : (backTo pos (starEach es X.env)).any (·.1) = false := by rfl) :
    ME X c W (.Call (.Name x p) (e :: es) [] pos) (e1 o g) :=
  PE.imp (pe_callTy hc hg hm hv ha hn hdb he hpl) fun σ H Qk ⟨G, ρ, ok, p⟩ => step ok p fun xs G1 H1 vs _ g1 r1 ok1 p1 => by
    cases e : o xs with
    | none => rw [e] at p1; exact p1.elim
    | some d =>
      rw [e] at p1
      exact hr G1 H1 vs xs d Qk e ok1.s r1 p1
end
end M

namespace M
open PySem PySem.Spec PyProof.Rows L2

theorem Nw.of {H H' : Hp} {a : Addr} (e : Ex H H') (n : Nw H' a) : Nw H a := fun o h t => n o (e.keep a o h t) t
theorem Nw.none {H : Hp} {a : Addr} (h : H a = none) : Nw H a := fun o e _ => by rw [h] at e; cases e
theorem Nw.ne {H : Hp} {a b : Addr} {us : List V} (n : Nw H a) (h : H b = some (.lst us)) : b ≠ a := fun e => by
  subst e
  exact n _ h nt_lst

/-! ### slots are set -/
/-- what a slot may take: data, or a list that no other slot has -/
def NwSl (K : PySem.W.Frag) (c : Cm) (H0 G H : Hp) (v : V) : Sl → Prop
  | .no => True
  | .d x => Q K c.ns G v x
  | .o xs => ∃ a us, v = .ref a ∧ H a = some (.lst us) ∧ G a = none ∧ Nw H0 a ∧ QA K c.ns G us xs
theorem getset {α : Type} {l : List α} {i j : Nat} {x y : α} (h : (l.set i x)[j]? = some y) : (i = j ∧ x = y ∧ i < l.length) ∨ (i ≠ j ∧ l[j]? = some y) := by
  by_cases hj : i = j
  · subst hj
    by_cases hl : i < l.length
    · rw [List.getElem?_set_self hl] at h
      exact .inl ⟨rfl, Option.some.inj h, hl⟩
    · rw [List.getElem?_eq_none (by simp; omega)] at h
      cases h
  · rw [List.getElem?_set_ne hj] at h
    exact .inr ⟨hj, h⟩
section
variable {K : PySem.W.Frag} {c : Cm} {G H G' H' : Hp} {ρ : Rho} {σ : L2.St}
theorem NwSl.gr {Hp0 : Hp} {v : V} {s : Sl} (h : NwSl K c Hp0 G H v s) (g : Gr G H G' H') : NwSl K c Hp0 G' H' v s := by
  cases s with
  | no => trivial
  | d x => exact Q.mono g.g _ _ h
  | o xs =>
    obtain ⟨a, us, e, ha, ga, h0, q⟩ := h
    exact ⟨a, us, e, g.h.keep a _ ha nt_lst, g.n a _ ha nt_lst ga, h0, QA.mono g.g _ _ q⟩
/-- slot i takes a value; its list is in no other slot -/
theorem Ok.setS (h : Ok K c G H ρ σ) (i : Nat) {v : V} {s : Sl} (q : NwSl K c c.H0 G H v s) (hd : ∀ xs a, s = .o xs → v = .ref a → ∀ j ys, j ≠ i → ρ[j]? = some (.o ys) → σ[j]? ≠ some (some (.ref a))) :
    Ok K c G H (ρ.set i s) (σ.set i (some v)) := by
  refine ⟨h.s, h.e, by simp [h.len], fun j x e => ?_, fun j k a xs ys e1 e2 e3 e4 => ?_⟩
  · rcases getset e with ⟨rfl, rfl, hl⟩ | ⟨hj, e'⟩
    · rw [List.getElem?_set_self (by rw [← h.len]; exact hl)]
      cases s with
      | no => trivial
      | d x => exact ⟨v, rfl, q⟩
      | o xs =>
        obtain ⟨a, us, rfl, r⟩ := q
        exact ⟨a, us, rfl, r⟩
    · rw [List.getElem?_set_ne hj]
      exact h.sl j x e'
  · rcases getset e1 with ⟨rfl, rfl, hl⟩ | ⟨hj, e1'⟩
    · rcases getset e2 with ⟨rfl, _, _⟩ | ⟨hk, e2'⟩
      · rfl
      · rw [List.getElem?_set_self (by rw [← h.len]; exact hl)] at e3
        rw [List.getElem?_set_ne hk] at e4
        cases e3
        exact absurd e4 (hd xs a rfl rfl k ys (Ne.symm hk) e2')
    · rw [List.getElem?_set_ne hj] at e3
      rcases getset e2 with ⟨rfl, rfl, hl⟩ | ⟨hk, e2'⟩
      · rw [List.getElem?_set_self (by rw [← h.len]; exact hl)] at e4
        cases e4
        exact absurd e3 (hd ys a rfl rfl j xs (Ne.symm hj) e1')
      · rw [List.getElem?_set_ne hk] at e4
        exact h.dj j k a xs ys e1' e2' e3 e4
/-- what is new stands apart from the slots -/
theorem Ok.apart (h : Ok K c G H ρ σ) {a : Addr} (n : Nw H a) {j : Nat} {ys : List D} (e : ρ[j]? = some (.o ys)) : σ[j]? ≠ some (some (.ref a)) := fun z => by
  obtain ⟨b, us, e2, hb, _⟩ := h.sl j _ e
  rw [z] at e2
  cases e2
  exact n.ne hb rfl
theorem Ok.new (h : Ok K c G H ρ σ) (g : Gr G H G' H') (i : Nat) {v : V} {s : Sl} (q : NwSl K c H G' H' v s) : Ok K c G' H' (ρ.set i s) (σ.set i (some v)) := by
  refine (h.gr g).setS i ?_ fun xs a es ev j ys _ e1 => ?_
  · cases s with
    | no => trivial
    | d x => exact q
    | o xs =>
      obtain ⟨a, us, rfl, h1, h2, h3, h4⟩ := q
      exact ⟨a, us, rfl, h1, h2, h3.of h.e.h, h4⟩
  · subst es ev
    obtain ⟨a', us, e, h1, h2, h3, h4⟩ := q
    cases e
    exact h.apart h3 e1
/-- a list of one's own is handed out for good -/
def frz (i : Nat) (ρ : Rho) : Rho := match ρ[i]? with
  | some (.o xs) => ρ.set i (.d (.list xs))
  | _ => ρ
theorem Ok.frz (h : Ok K c G H ρ σ) (i : Nat) : ∃ G', Same G G' ∧ Ok K c G' H (frz i ρ) σ := by
  cases e : ρ[i]? with
  | none => exact ⟨G, Same.refl G, by unfold M.frz; rw [e]; exact h⟩
  | some x =>
    cases x with
    | no => exact ⟨G, Same.refl G, by unfold M.frz; rw [e]; exact h⟩
    | d x => exact ⟨G, Same.refl G, by unfold M.frz; rw [e]; exact h⟩
    | o xs =>
      obtain ⟨a, us, e1, ha, ga, n0, q⟩ := h.sl i _ e
      have sm : Same G (upd G a (.lst us)) := new_same ga
      have eq : M.frz i ρ = ρ.set i (.d (.list xs)) := by unfold M.frz; rw [e]
      rw [eq]
      refine ⟨upd G a (.lst us), sm, ?_, ?_, by simp [h.len], fun j x e2 => ?_, fun j k b ys zs e2 e3 e4 e5 => ?_⟩
      · intro b o hb
        by_cases z : b = a
        · subst z
          rw [upd_same] at hb
          cases hb
          exact ⟨ha, nt_lst⟩
        · rw [upd_ne z] at hb
          exact h.s b o hb
      · refine ⟨h.e.g.trans sm, h.e.h, ?_, fun b o hb ht gb => ?_⟩
        · intro b o hb
          by_cases z : b = a
          · subst z
            rw [upd_same] at hb
            cases hb
            exact ⟨ha, nt_lst⟩
          · rw [upd_ne z] at hb
            exact h.s b o hb
        · rw [upd_ne (fun z => by subst z; exact n0 o hb ht)]
          exact h.e.n b o hb ht gb
      · rcases getset e2 with ⟨rfl, rfl, hl⟩ | ⟨hj, e2'⟩
        · exact ⟨.ref a, e1, .lst upd_same (QA.mono sm _ _ q)⟩
        · have := h.sl j x e2'
          cases x with
          | no => trivial
          | d x =>
            obtain ⟨u, e3, q3⟩ := this
            exact ⟨u, e3, Q.mono sm _ _ q3⟩
          | o ys =>
            obtain ⟨b, ws, e3, hb, gb, nb, qb⟩ := this
            refine ⟨b, ws, e3, hb, ?_, nb, QA.mono sm _ _ qb⟩
            rw [upd_ne (fun z => hj (h.dj i j a xs ys e e2' e1 (by rw [← z]; exact e3)))]
            exact gb
      · rcases getset e2 with ⟨rfl, z, _⟩ | ⟨hj, e2'⟩
        · cases z
        · rcases getset e3 with ⟨rfl, z, _⟩ | ⟨hk, e3'⟩
          · cases z
          · exact h.dj j k b ys zs e2' e3' e4 e5
/-- a list of one's own is changed -/
theorem Ok.wr (h : Ok K c G H ρ σ) {i : Nat} {a : Addr} {xs ys : List D} {us ws : List V} (e : ρ[i]? = some (.o xs)) (e1 : σ[i]? = some (some (.ref a))) (ha : H a = some (.lst us)) (ga : G a = none) (n0 : Nw c.H0 a) (q : QA K c.ns G ws ys) :
    Ok K c G (upd H a (.lst ws)) (ρ.set i (.o ys)) σ := by
  have hb : ∀ b o, b ≠ a → H b = some o → upd H a (.lst ws) b = some o := fun b o z e => by rw [upd_ne z]; exact e
  have hs : Sub G (upd H a (.lst ws)) := fun b o hg => ⟨hb b o (fun z => by subst z; rw [ga] at hg; cases hg) (h.s b o hg).1, (h.s b o hg).2⟩
  have hl : i < ρ.length := (List.getElem?_eq_some_iff.mp e).1
  refine ⟨hs, ⟨h.e.g, ⟨fun b o e2 ht => hb b o (fun z => by subst z; exact n0 o e2 ht) (h.e.h.keep b o e2 ht), fun T t => ?_⟩, hs, h.e.n⟩, by simp [h.len], fun j x e2 => ?_, fun j k b ys' zs e2 e3 e4 e5 => ?_⟩
  · obtain ⟨ps, t1, t2, t3⟩ := h.e.h.tabs T t
    refine ⟨ps, hb _ _ (fun z => by rw [z, ha] at t1; cases t1) t1, t2, fun pos cv hc => ?_⟩
    obtain ⟨cc, c1, c2⟩ := t3 pos cv hc
    exact ⟨cc, c1, hb _ _ (fun z => by rw [z, ha] at c2; cases c2) c2⟩
  · rcases getset e2 with ⟨rfl, rfl, _⟩ | ⟨hj, e2'⟩
    · exact ⟨a, ws, e1, upd_same, ga, n0, q⟩
    · have := h.sl j x e2'
      cases x with
      | no => trivial
      | d x => exact this
      | o ys' =>
        obtain ⟨b, vs, e3, hb', gb, nb, qb⟩ := this
        refine ⟨b, vs, e3, hb b _ (fun z => hj (h.dj i j a xs ys' e e2' e1 (by rw [← z]; exact e3))) hb', gb, nb, qb⟩
  · rcases getset e2 with ⟨rfl, _, _⟩ | ⟨hj, e2'⟩
    · rcases getset e3 with ⟨rfl, _, _⟩ | ⟨hk, e3'⟩
      · rfl
      · exact h.dj i k b xs zs e e3' e4 e5
    · rcases getset e3 with ⟨rfl, _, _⟩ | ⟨hk, e3'⟩
      · exact h.dj j i b ys' xs e2' e e4 e5
      · exact h.dj j k b ys' zs e2' e3' e4 e5
end

/-! ### what an assignment takes -/
section
variable (K : PySem.W.Frag) (c : Cm) (W : WM)
def PostN (G H : Hp) (σ : L2.St) (Qk : V → Hp → Prop) : R Sl → Prop
  | .ok s => ∀ G' H' v, Gr G H G' H' → NwSl K c H G' H' v s → Qk v H'
  | .rz z => ∀ G' H', Gr G H G' H' → W z σ H'
  | .bad => False
def tN (f : Rho → R Sl) : TE := fun σ H Qk => ∃ G ρ, Ok K c G H ρ σ ∧ PostN K c W G H σ Qk (f ρ)
end
abbrev MN (X : Cx) (c : Cm) (W : WM) (e : Expr) (f : Rho → R Sl) : Prop := PE X e (tN X.K c W f)
def nD (f : Rho → R D) : Rho → R Sl := fun ρ => (f ρ).bind fun x => .ok (.d x)
/-- a list that has just been made, as a slot's own -/
def nO (f : Rho → R (List D)) : Rho → R Sl := fun ρ => (f ρ).bind fun x => .ok (.o x)
section
variable {X : Cx} {c : Cm} {W : WM}
theorem PostN.gr {K : PySem.W.Frag} {G H G' H' : Hp} {σ : L2.St} {Qk : V → Hp → Prop} {r : R Sl} (h : PostN K c W G H σ Qk r) (g : Gr G H G' H') : PostN K c W G' H' σ Qk r := by
  cases r with
  | ok s => exact fun G2 H2 v g2 q => h G2 H2 v (g.trans g2) (by
      cases s with
      | no => trivial
      | d x => exact q
      | o xs =>
        obtain ⟨a, us, e, h1, h2, h3, h4⟩ := q
        exact ⟨a, us, e, h1, h2, h3.of g.h, h4⟩)
  | rz z => exact fun G2 H2 g2 => h G2 H2 (g.trans g2)
  | bad => exact h
theorem stepN {K : PySem.W.Frag} {α β : Type} {Rel : Hp → Hp → β → α → Prop} {G H : Hp} {σ : L2.St} {ρ : Rho} {f : Rho → R α} {F : α → R Sl} {Qk : V → Hp → Prop} {k : β → Hp → Prop} (ok : Ok K c G H ρ σ) (h : PostN K c W G H σ Qk ((f ρ).bind F))
    (hk : ∀ a G' H' v, f ρ = .ok a → Gr G H G' H' → Rel G' H' v a → Ok K c G' H' ρ σ → PostN K c W G' H' σ Qk (F a) → k v H') : tR K c W Rel f σ H k := by
  refine ⟨G, ρ, ok, ?_⟩
  cases e : f ρ with
  | ok a =>
    rw [e] at h
    exact fun G' H' v g r => hk a G' H' v e g r (ok.gr g) (PostN.gr (r := F a) h g)
  | rz z => rw [e] at h; exact h
  | bad => rw [e] at h; exact h.elim
theorem mn_d {e : Expr} {f : Rho → R D} (h : ME X c W e f) : MN X c W e (nD f) := PE.imp h fun σ H Qk ⟨G, ρ, ok, p⟩ => stepN ok p fun x G1 H1 v _ g1 r1 ok1 p1 => p1 G1 H1 v (Gr.refl ok1.s) r1
def nLst (g : Rho → R (List D)) : Rho → R Sl := fun ρ => (g ρ).bind fun xs => if xs.length ≤ 1000000 then .ok (.o xs) else .bad
theorem mn_lst {es : List Expr} {pos : Pos} {g : Rho → R (List D)} (h : MA X c W es g) : MN X c W (.List es pos) (nLst g) :=
  PE.imp (pe_lst h) fun σ H Qk ⟨G, ρ, ok, p⟩ => stepN ok p fun xs G1 H1 vs _ g1 r1 ok1 p1 => by
      by_cases hl : xs.length ≤ 1000000
      · rw [if_pos hl] at p1
        exact ⟨by rw [r1.length]; exact sz hl, fun q hq => p1 G1 _ _ (Gr.own ok1.s hq) ⟨q, vs, rfl, upd_same, ok1.s.free hq, Nw.none hq, r1⟩⟩
      · rw [if_neg hl] at p1; exact p1.elim
end

/-! ### statements -/
inductive Out where
  | nx (ρ : Rho)
  | rt (x : D)
  | rf (xs : List D)
  | rz (c : Str) (ρ : Rho)
  | bk (ρ : Rho)
  | ct (ρ : Rho)
  | bad
def R.out {α : Type} (r : R α) (ρ : Rho) (k : α → Out) : Out := match r with
  | .ok a => k a
  | .rz z => .rz z ρ
  | .bad => .bad
section
variable (K : PySem.W.Frag) (c : Cm) (W : WM)
def PostS (G : Hp) (De : Ends) : Out → Prop
  | .nx ρ => ∀ G' H' σ, Same G G' → Ok K c G' H' ρ σ → De.nx σ H'
  | .rt x => ∀ G' H' v, Gr c.G0 c.H0 G' H' → Q K c.ns G' v x → De.rt v H'
  | .rf xs => ∀ G' H' a us, Gr c.G0 c.H0 G' H' → Nw c.H0 a → H' a = some (.lst us) → G' a = none → QA K c.ns G' us xs → De.rt (.ref a) H'
  | .rz z ρ => ∀ G' H' σ, Same G G' → Ok K c G' H' ρ σ → W z σ H'
  | .bk ρ => ∀ G' H' σ, Same G G' → Ok K c G' H' ρ σ → De.bk σ H'
  | .ct ρ => ∀ G' H' σ, Same G G' → Ok K c G' H' ρ σ → De.ct σ H'
  | .bad => False
def tS (f : Rho → Out) : TS := fun De σ H => ∃ G ρ, Ok K c G H ρ σ ∧ PostS K c W G De (f ρ)
end
abbrev MS (X : Cx) (c : Cm) (W : WM) (st : Stmt) (f : Rho → Out) : Prop := PS X st (tS X.K c W f)
abbrev MSs (X : Cx) (c : Cm) (W : WM) (st : List Stmt) (f : Rho → Out) : Prop := PSs X st (tS X.K c W f)
section
variable {K : PySem.W.Frag} {c : Cm} {W : WM} {G H G' H' : Hp} {σ : L2.St} {ρ : Rho} {De : Ends}
theorem PostS.gr {o : Out} (h : PostS K c W G De o) (g : Same G G') : PostS K c W G' De o := by
  cases o with
  | nx ρ => exact fun G2 H2 σ s ok => h G2 H2 σ (g.trans s) ok
  | rt x => exact h
  | rf x => exact h
  | rz z ρ => exact fun G2 H2 σ s ok => h G2 H2 σ (g.trans s) ok
  | bk ρ => exact fun G2 H2 σ s ok => h G2 H2 σ (g.trans s) ok
  | ct ρ => exact fun G2 H2 σ s ok => h G2 H2 σ (g.trans s) ok
  | bad => exact h
theorem stepS {α β : Type} {Rel : Hp → Hp → β → α → Prop} {f : Rho → R α} {F : α → Out} {k : β → Hp → Prop} (ok : Ok K c G H ρ σ) (h : PostS K c W G De ((f ρ).out ρ F))
    (hk : ∀ a G' H' v, f ρ = .ok a → Gr G H G' H' → Rel G' H' v a → Ok K c G' H' ρ σ → PostS K c W G' De (F a) → k v H') : tR K c W Rel f σ H k := by
  refine ⟨G, ρ, ok, ?_⟩
  cases e : f ρ with
  | ok a =>
    rw [e] at h
    exact fun G' H' v g r => hk a G' H' v e g r (ok.gr g) (PostS.gr (o := F a) h g.g)
  | rz z =>
    rw [e] at h
    exact fun G' H' g => h G' H' σ g.g (ok.gr g)
  | bad => rw [e] at h; exact h.elim
theorem stepSN {f : Rho → R Sl} {F : Sl → Out} {k : V → Hp → Prop} (ok : Ok K c G H ρ σ) (h : PostS K c W G De ((f ρ).out ρ F))
    (hk : ∀ s G' H' v, f ρ = .ok s → Gr G H G' H' → NwSl K c H G' H' v s → Ok K c G' H' ρ σ → PostS K c W G' De (F s) → k v H') : tN K c W f σ H k := by
  refine ⟨G, ρ, ok, ?_⟩
  cases e : f ρ with
  | ok a =>
    rw [e] at h
    exact fun G' H' v g r => hk a G' H' v e g r (ok.gr g) (PostS.gr (o := F a) h g.g)
  | rz z =>
    rw [e] at h
    exact fun G' H' g => h G' H' σ g.g (ok.gr g)
  | bad => rw [e] at h; exact h.elim
end
def sNil : Rho → Out := .nx
def sSeq (f g : Rho → Out) : Rho → Out := fun ρ => match f ρ with
  | .nx ρ' => g ρ'
  | .rt x => .rt x
  | .rf x => .rf x
  | .rz z ρ' => .rz z ρ'
  | .bk ρ' => .bk ρ'
  | .ct ρ' => .ct ρ'
  | .bad => .bad
def sSet (i : Nat) (f : Rho → R Sl) : Rho → Out := fun ρ => (f ρ).out ρ fun s => .nx (ρ.set i s)
def sRet (f : Rho → R D) : Rho → Out := fun ρ => (f ρ).out ρ .rt
def sRetN (f : Rho → R Sl) : Rho → Out := fun ρ => (f ρ).out ρ fun s => match s with
  | .d x => .rt x
  | .o xs => .rf xs
  | .no => .bad
def sIf (t : Rho → R Bool) (f g : Rho → Out) : Rho → Out := fun ρ => (t ρ).out ρ fun b => if b then f ρ else g ρ
def sDrop (f : Rho → R D) : Rho → Out := fun ρ => (f ρ).out ρ fun _ => .nx ρ
def sFrz (i : Nat) (f : Rho → Out) : Rho → Out := fun ρ => f (frz i ρ)
def sBad : Rho → Out := fun _ => .bad
section
variable {X : Cx} {c : Cm} {W : WM}
theorem mss_nil : MSs X c W [] sNil := PSs.imp pss_nil fun De σ H ⟨G, ρ, ok, p⟩ => p G H σ (Same.refl G) ok
theorem seq_post {K : PySem.W.Frag} {G : Hp} {De : Ends} {f g : Rho → Out} {ρ : Rho} (p : PostS K c W G De (sSeq f g ρ)) : PostS K c W G { De with nx := tS K c W g De } (f ρ) := by
  unfold sSeq at p
  cases e : f ρ with
  | nx ρ' =>
    rw [e] at p
    exact fun G' H' σ s ok => ⟨G', ρ', ok, PostS.gr (o := g ρ') p s⟩
  | rt x => rw [e] at p; exact p
  | rf x => rw [e] at p; exact p
  | rz z ρ' => rw [e] at p; exact p
  | bk ρ' => rw [e] at p; exact p
  | ct ρ' => rw [e] at p; exact p
  | bad => rw [e] at p; exact p
theorem mss_cons {st : Stmt} {rest : List Stmt} {f g : Rho → Out} (h1 : MS X c W st f) (h2 : MSs X c W rest g) : MSs X c W (st :: rest) (sSeq f g) :=
  PSs.imp (pss_cons h1 h2) fun De σ H ⟨G, ρ, ok, p⟩ => ⟨G, ρ, ok, seq_post p⟩
theorem mss_one {st : Stmt} {f : Rho → Out} (h : MS X c W st f) : MSs X c W [st] f := pss_one h
theorem ms_set {i : Nat} {x : Str} {e : Expr} {f : Rho → R Sl} {pos pos' : Pos} (hN : X.N.Nodup) (hi : X.N[i]? = some x) (hx : Loc X.env.scope x) (he : MN X c W e f) (hs : swapsWith e (some (.Name x pos')) pos.line X.env = pure false := by rfl) (hf : X.fn x = true ∨ X.env.scope.names.lookup x = some .local := by first | exact .inl rfl | exact .inr rfl | assumption) :
    MS X c W (.Assign [.Name x pos'] e pos) (sSet i f) := PS.imp (ps_set hN hi hx he hs hf) fun De σ H ⟨G, ρ, ok, p⟩ => stepSN ok p fun s G1 H1 v _ g1 r1 ok1 p1 => p1 G1 H1 _ (Same.refl G1) (ok.new g1 i r1)
theorem ms_ret {e : Expr} {f : Rho → R D} {pos : Pos} (he : ME X c W e f) : MS X c W (.Return (some e) pos) (sRet f) :=
  PS.imp (ps_ret he) fun De σ H ⟨G, ρ, ok, p⟩ => stepS ok p fun x G1 H1 v _ g1 r1 ok1 p1 => p1 G1 H1 v ok1.e r1
theorem ms_retN {e : Expr} {f : Rho → R Sl} {pos : Pos} (he : MN X c W e f) : MS X c W (.Return (some e) pos) (sRetN f) :=
  PS.imp (ps_ret he) fun De σ H ⟨G, ρ, ok, p⟩ => stepSN ok p fun s G1 H1 v _ g1 r1 ok1 p1 => by
    cases s with
    | no => exact p1.elim
    | d x => exact p1 G1 H1 v ok1.e r1
    | o xs =>
      obtain ⟨a, us, rfl, h1, h2, h3, h4⟩ := r1
      exact p1 G1 H1 a us ok1.e (h3.of ok.e.h) h1 h2 h4
/-- return x, x a list of one's own -/
def own (i : Nat) : Rho → Out := fun ρ => match ρ[i]? with
  | some (.o xs) => .rf xs
  | some (.d x) => .rt x
  | _ => .bad
theorem ms_retO (i : Nat) {e : Expr} {pos : Pos} (he : PE X e (tVar i)) : MS X c W (.Return (some e) pos) (own i) :=
  PS.imp (ps_ret he) fun De σ H ⟨G, ρ, ok, p⟩ => by
    unfold own at p
    cases e1 : ρ[i]? with
    | none => rw [e1] at p; exact p.elim
    | some x =>
      cases x with
      | no => rw [e1] at p; exact p.elim
      | o xs =>
        rw [e1] at p
        obtain ⟨a, us, e2, ha, ga, n0, q⟩ := ok.sl i _ e1
        exact ⟨_, e2, p G H a us ok.e n0 ha ga q⟩
      | d x =>
        rw [e1] at p
        obtain ⟨u, e2, q⟩ := ok.sl i _ e1
        exact ⟨u, e2, p G H u ok.e q⟩
theorem ms_if {t : Expr} {a b : List Stmt} {ft : Rho → R Bool} {f g : Rho → Out} {pos : Pos} (ht : MT X c W t ft) (ha : MSs X c W a f) (hb : MSs X c W b g) : MS X c W (.If t a b pos) (sIf ft f g) :=
  PS.imp (ps_if ht ha hb) fun De σ H ⟨G, ρ, ok, p⟩ => stepS ok p fun x G1 H1 v _ g1 r1 ok1 p1 => by
    subst r1
    cases v with
    | true => exact ⟨G1, ρ, ok1, p1⟩
    | false => exact ⟨G1, ρ, ok1, p1⟩
theorem ms_expr {e : Expr} {f : Rho → R D} {pos : Pos} (he : MB X c W e f) (hs : swapsWith e none pos.line X.env = pure false := by rfl) : MS X c W (.Expr e pos) (sDrop f) :=
  PS.imp (ps_expr he hs) fun De σ H ⟨G, ρ, ok, p⟩ => stepS ok p fun x G1 H1 v _ g1 r1 ok1 p1 => p1 G1 H1 σ (Same.refl G1) ok1
theorem ms_pass {pos : Pos} : MS X c W (.Pass pos) sNil := PS.imp ps_pass fun De σ H ⟨G, ρ, ok, p⟩ => p G H σ (Same.refl G) ok
theorem ms_break {pos : Pos} : MS X c W (.Break pos) .bk := PS.imp ps_break fun De σ H ⟨G, ρ, ok, p⟩ => p G H σ (Same.refl G) ok
theorem ms_continue {pos : Pos} : MS X c W (.Continue pos) .ct := PS.imp ps_continue fun De σ H ⟨G, ρ, ok, p⟩ => p G H σ (Same.refl G) ok
theorem ms_never {st : Stmt} : MS X c W st sBad := PS.imp ps_never fun De σ H ⟨G, ρ, ok, p⟩ => p
theorem ms_doc {x j pos pos'} : MS X c W (.Expr (.Constant (.str x) j pos) pos') sNil := PS.imp ps_doc fun De σ H ⟨G, ρ, ok, p⟩ => p G H σ (Same.refl G) ok
theorem ms_frz (i : Nat) {st : Stmt} {f : Rho → Out} (h : MS X c W st f) : MS X c W st (sFrz i f) := PS.imp h fun De σ H ⟨G, ρ, ok, p⟩ => by
  obtain ⟨G', s, ok'⟩ := ok.frz i
  exact ⟨G', _, ok', PostS.gr (o := f (frz i ρ)) p s⟩
/-! ### x.append(e), x.extend(e), x[k] = e, x a list of one's own -/
def sApp (i : Nat) (f : Rho → R D) : Rho → Out := fun ρ => match ρ[i]? with
  | some (.o xs) => (f ρ).out ρ fun d => if xs.length < 1000000 then .nx (ρ.set i (.o (xs ++ [d]))) else .bad
  | _ => .bad
theorem tyL {K : PySem.W.Frag} {H : Hp} {a : Addr} {us : List V} (h : H a = some (.lst us)) : tyV K "list" (.ref a) H := .inl ⟨rfl, us, SqL.of h⟩
theorem own_of {K : PySem.W.Frag} {G H : Hp} {ρ : Rho} {σ : L2.St} {i : Nat} {xs : List D} (ok : Ok K c G H ρ σ) (e : ρ[i]? = some (.o xs)) {a : Addr} (e2 : σ[i]? = some (some (.ref a))) : ∃ us, H a = some (.lst us) ∧ G a = none ∧ Nw c.H0 a ∧ QA K c.ns G us xs := by
  obtain ⟨b, us, e3, h⟩ := ok.sl i _ e
  rw [e2] at e3
  cases e3
  exact ⟨us, h⟩
theorem ms_app {i : Nat} {e : Expr} {f : Rho → R D} {pos : Pos} (h : PE X e (tBM X.K "list" rAppend (tVar i) (tCons (tR X.K c W (RelQ X.K c.ns) f) tNil))) (hw : swapsWith e none pos.line X.env = pure false := by rfl) :
    MS X c W (.Expr e pos) (sApp i f) :=
  PS.imp (ps_expr h hw) fun De σ H ⟨G, ρ, ok, p⟩ => by
    unfold sApp at p
    split at p
    · rename_i xs e1
      obtain ⟨a, us, e2, ha, ga, n0, q⟩ := ok.sl i _ e1
      refine ⟨_, e2, tyL ha, stepS ok p fun d G1 H1 v _ g1 r1 ok1 p1 => ?_⟩
      split at p1
      · rename_i hl
        obtain ⟨us1, ha1, ga1, n1, q1⟩ := own_of ok1 e1 e2
        exact ⟨a, us1, v, rfl, rfl, ha1, szl (by rw [q1.length]; exact hl), p1 G1 _ σ (Same.refl G1) (ok1.wr e1 e2 ha1 ga1 n1 (q1.append (.cons r1 .nil)))⟩
      · exact p1.elim
    · exact p.elim
def sExt (i : Nat) (f : Rho → R D) : Rho → Out := fun ρ => match ρ[i]? with
  | some (.o xs) => (f ρ).out ρ fun d => match d with
    | .list ys => if xs.length + ys.length < 1000000 then .nx (ρ.set i (.o (xs ++ ys))) else .bad
    | _ => .bad
  | _ => .bad
theorem ms_ext {i : Nat} {e : Expr} {f : Rho → R D} {pos : Pos} (h : PE X e (tBM X.K "list" rExtend (tVar i) (tCons (tR X.K c W (RelB X.K c.ns) f) tNil))) (hw : swapsWith e none pos.line X.env = pure false := by rfl) :
    MS X c W (.Expr e pos) (sExt i f) :=
  PS.imp (ps_expr h hw) fun De σ H ⟨G, ρ, ok, p⟩ => by
    unfold sExt at p
    split at p
    · rename_i xs e1
      obtain ⟨a, us, e2, ha, ga, n0, q⟩ := ok.sl i _ e1
      refine ⟨_, e2, tyL ha, stepS ok p fun d G1 H1 v _ g1 r1 ok1 p1 => ?_⟩
      split at p1
      · rename_i ys
        split at p1
        · rename_i hl
          obtain ⟨us1, ha1, ga1, n1, q1⟩ := own_of ok1 e1 e2
          obtain ⟨b, ws, rfl, hb, qb⟩ := r1.list ok1.s
          exact ⟨a, b, us1, ws, rfl, rfl, ha1, hb, Nat.le_of_lt (szl (by rw [q1.length, qb.length]; exact hl)), p1 G1 _ σ (Same.refl G1) (ok1.wr e1 e2 ha1 ga1 n1 (q1.append qb))⟩
        · exact p1.elim
      · exact p1.elim
    · exact p.elim
def sPut (i : Nat) (k : Rho → R D) (f : Rho → R D) : Rho → Out := fun ρ => (f ρ).out ρ fun d => match ρ[i]? with
  | some (.o xs) => (k ρ).out ρ fun n => match n with
    | .int n => match ixN xs.length n with
      | some j => .nx (ρ.set i (.o (xs.set j d)))
      | none => .bad
    | _ => .bad
  | _ => .bad
theorem ms_put {i : Nat} {o ke e : Expr} {k f : Rho → R D} {pos pos' : Pos} (ho : PE X o (tVar i)) (hk : MB X c W ke k) (he : ME X c W e f) (hg : PG X (.Subscript o ke pos') (gSub (tVar i) (tR X.K c W (RelB X.K c.ns) k) rSetL))
    (hs : swapsWithSole [.Subscript o ke pos'] e pos.line X.env = pure false := by rfl) (hw : swappedStores [.Subscript o ke pos'] e X.env = pure none := by rfl)
    (h1 : (assignEach [.Subscript o ke pos'] X.env).map (·.2) = [assign (.Subscript o ke pos') X.env] := by rfl) :
    MS X c W (.Assign [.Subscript o ke pos'] e pos) (sPut i k f) :=
  PS.imp (ps_asg he hg hs hw h1) fun De σ H ⟨G, ρ, ok, p⟩ => stepS ok p fun d G1 H1 v _ g1 r1 ok1 p1 => by
    split at p1
    · rename_i xs e1
      obtain ⟨a, us, e2, _⟩ := ok1.sl i _ e1
      refine ⟨_, e2, stepS ok1 p1 fun n G2 H2 w hen g2 r2 ok2 p2 => ?_⟩
      split at p2
      · rename_i n
        split at p2
        · rename_i j hj
          obtain rfl := r2.int
          obtain ⟨us2, ha2, ga2, n2, q2⟩ := own_of ok2 e1 e2
          exact ⟨a, us2, n, j, rfl, rfl, ha2, by rw [q2.length]; exact hj, p2 G2 _ σ (Same.refl G2) (ok2.wr e1 e2 ha2 ga2 n2 (q2.set j (Q.mono g2.g _ _ r1)))⟩
        · exact p2.elim
      · exact p2.elim
    · exact p1.elim
end
end M

namespace M
open PySem PySem.Spec PyProof.Rows L2

theorem PI.imp {X : Cx} {tg e : Expr} {t t' : TI} (h : PI X tg e t) (i : ∀ σ H Q, t' σ H Q → t σ H Q) : PI X tg e t' := ⟨fun pins s σ H Q I hw => h.run pins s σ H Q I (i σ H Q hw)⟩

/-! ### what is walked -/
structure ItOk (K : PySem.W.Frag) (ns : Sc) (J : It) (P : Hp → Prop) (xs : List D) : Prop where
  mono : ∀ G G', Same G G' → P G → P G'
  go : ∀ G H i d, P G → Sub G H → xs[i]? = some d → J.go i H
  yld : ∀ G H i d x H', P G → Sub G H → xs[i]? = some d → J.yld i H x H' → ∃ G', Gr G H G' H' ∧ Q K ns G' x d
  stop : ∀ G H, P G → Sub G H → J.stop xs.length H
def PostI (K : PySem.W.Frag) (c : Cm) (W : WM) (G H : Hp) (σ : L2.St) (Rk : It → Hp → Prop) : R (List D) → Prop
  | .ok xs => ∀ G' H' J P, Gr G H G' H' → ItOk K c.ns J P xs → P G' → Rk J H'
  | .rz z => ∀ G' H', Gr G H G' H' → W z σ H'
  | .bad => False
def tIt (K : PySem.W.Frag) (c : Cm) (W : WM) (f : Rho → R (List D)) : TI := fun σ H Rk => ∃ G ρ, Ok K c G H ρ σ ∧ PostI K c W G H σ Rk (f ρ)
abbrev MI (X : Cx) (c : Cm) (W : WM) (tg e : Expr) (f : Rho → R (List D)) : Prop := PI X tg e (tIt X.K c W f)
section
variable {X : Cx} {c : Cm} {W : WM}
theorem PostI.gr {K : PySem.W.Frag} {G H G' H' : Hp} {σ : L2.St} {Rk : It → Hp → Prop} {r : R (List D)} (h : PostI K c W G H σ Rk r) (g : Gr G H G' H') : PostI K c W G' H' σ Rk r := by
  cases r with
  | ok xs => exact fun G2 H2 J P g2 i p => h G2 H2 J P (g.trans g2) i p
  | rz z => exact fun G2 H2 g2 => h G2 H2 (g.trans g2)
  | bad => exact h
theorem stepI {K : PySem.W.Frag} {α β : Type} {Rel : Hp → Hp → β → α → Prop} {G H : Hp} {σ : L2.St} {ρ : Rho} {f : Rho → R α} {F : α → R (List D)} {Rk : It → Hp → Prop} {k : β → Hp → Prop} (ok : Ok K c G H ρ σ) (h : PostI K c W G H σ Rk ((f ρ).bind F))
    (hk : ∀ a G' H' v, f ρ = .ok a → Gr G H G' H' → Rel G' H' v a → Ok K c G' H' ρ σ → PostI K c W G' H' σ Rk (F a) → k v H') : tR K c W Rel f σ H k := by
  refine ⟨G, ρ, ok, ?_⟩
  cases e : f ρ with
  | ok a =>
    rw [e] at h
    exact fun G' H' v g r => hk a G' H' v e g r (ok.gr g) (PostI.gr (r := F a) h g)
  | rz z => rw [e] at h; exact h
  | bad => rw [e] at h; exact h.elim
theorem QA.none {K : PySem.W.Frag} {ns : Sc} {G : Hp} {ds : List D} {vs : List V} {i : Nat} (h : QA K ns G vs ds) (e : ds[i]? = none) : vs[i]? = none := by
  rw [List.getElem?_eq_none_iff] at e ⊢
  rw [h.length]
  exact e
theorem it_list {K : PySem.W.Frag} {ns : Sc} {a : Addr} {us : List V} {ds : List D} : ItOk K ns (Itl K a) (fun G => G a = some (.lst us) ∧ QA K ns G us ds) ds where
  mono := fun G G' s p => ⟨s _ _ p.1, QA.mono s _ _ p.2⟩
  go := fun G H i d p s e => by
    obtain ⟨v, ev, q⟩ := p.2.get e
    exact ⟨us, v, SqL.of (s _ _ p.1).1, ev⟩
  yld := fun G H i d x H' p s e y => by
    obtain ⟨rfl, y⟩ := y
    obtain ⟨v, ev, q⟩ := p.2.get e
    have := y us (SqL.of (s _ _ p.1).1)
    rw [ev] at this
    cases this
    exact ⟨G, Gr.refl s, q⟩
  stop := fun G H p s => ⟨us, SqL.of (s _ _ p.1).1, Nat.le_of_eq p.2.length⟩
theorem it_tup {K : PySem.W.Frag} {ns : Sc} {a : Addr} {us : List V} {ds : List D} : ItOk K ns (Itt K a) (fun G => SqT K G a us ∧ QA K ns G us ds) ds where
  mono := fun G G' s p => ⟨SqT.same s p.1, QA.mono s _ _ p.2⟩
  go := fun G H i d p s e => by
    obtain ⟨v, ev, q⟩ := p.2.get e
    exact ⟨us, v, SqT.same s.same p.1, ev⟩
  yld := fun G H i d x H' p s e y => by
    obtain ⟨rfl, y⟩ := y
    obtain ⟨v, ev, q⟩ := p.2.get e
    have := y us (SqT.same s.same p.1)
    rw [ev] at this
    cases this
    exact ⟨G, Gr.refl s, q⟩
  stop := fun G H p s => ⟨us, SqT.same s.same p.1, Nat.le_of_eq p.2.length⟩
/-- the items of a list, of a tuple -/
def items : D → Option (List D)
  | .list xs => some xs
  | .tuple xs => some xs
  | _ => none
def itE (f : Rho → R D) : Rho → R (List D) := fun ρ => (f ρ).bind fun d => R.of (items d)
theorem pi_either {tg e : Expr} {te : TE} (h : PE X e te) : PI X tg e (fun σ H R => iList X.K te σ H R ∨ iTup X.K te σ H R) := ⟨fun pins s σ H R I hw => by
  rcases hw with hw | hw
  · exact (pi_list h).run pins s σ H R I hw
  · exact (pi_tup h).run pins s σ H R I hw⟩
theorem mi_of {tg e : Expr} {f : Rho → R D} (h : ME X c W e f) : MI X c W tg e (itE f) := PI.imp (pi_either h) fun σ H Rk ⟨G, ρ, ok, p⟩ => by
  cases ef : f ρ with
  | bad => unfold itE at p; rw [ef] at p; exact p.elim
  | rz z =>
    refine .inl (stepI ok p fun d G1 H1 v e1 g1 r1 ok1 p1 => ?_)
    rw [ef] at e1
    cases e1
  | ok d =>
    cases d with
    | list xs =>
      refine .inl (stepI ok p fun d G1 H1 v e1 g1 r1 ok1 p1 => ?_)
      rw [ef] at e1
      cases e1
      cases r1 with
      | lst h1 h2 => exact ⟨_, rfl, ⟨_, SqL.of (ok1.s _ _ h1).1⟩, p1 G1 H1 _ _ (Gr.refl ok1.s) it_list ⟨h1, h2⟩⟩
    | tuple xs =>
      refine .inr (stepI ok p fun d G1 H1 v e1 g1 r1 ok1 p1 => ?_)
      rw [ef] at e1
      cases e1
      cases r1 with
      | tup h1 h2 => exact ⟨_, rfl, ⟨_, SqT.same ok1.s.same h1⟩, p1 G1 H1 _ _ (Gr.refl ok1.s) it_tup ⟨h1, h2⟩⟩
    | _ => unfold itE at p; rw [ef] at p; exact p.elim
/-- lo, lo + 1, .. -/
def rng (lo : Int) (n : Nat) : List D := (List.range n).map fun (i : Nat) => .int (lo + (i : Int))
theorem it_rng {K : PySem.W.Frag} {ns : Sc} {lo : Int} {n : Nat} : ItOk K ns (Itr lo n) (fun _ => True) (rng lo n) where
  mono := fun _ _ _ _ => trivial
  go := fun G H i d p s e => by
    have := (List.getElem?_eq_some_iff.mp e).1
    show i < n
    simpa [rng] using this
  yld := fun G H i d x H' p s e y => by
    obtain ⟨rfl, rfl⟩ := y
    refine ⟨G, Gr.refl s, ?_⟩
    have hi := (List.getElem?_eq_some_iff.mp e).1
    simp only [rng, List.length_map, List.length_range] at hi
    rw [rng, List.getElem?_map, List.getElem?_range hi] at e
    cases e
    exact .int _
  stop := fun G H p s => by
    show n ≤ (rng lo n).length
    simp [rng]
def rg1 (f : Rho → R D) : Rho → R (List D) := fun ρ => (f ρ).bind fun d => match d with
  | .int j => if -1000000000 ≤ j ∧ j ≤ 1000000000 then .ok (rng 0 j.toNat) else .bad
  | _ => .bad
def rg2 (f g : Rho → R D) : Rho → R (List D) := fun ρ => (f ρ).bind fun d => (g ρ).bind fun e => match d, e with
  | .int i, .int j => if -1000000000 ≤ i ∧ i ≤ 1000000000 ∧ -1000000000 ≤ j ∧ j ≤ 1000000000 then .ok (rng i (j - i).toNat) else .bad
  | _, _ => .bad
theorem mi_range1 {tg a : Expr} {f : Rho → R D} {p pos : Pos} (hg : Gl X "range") (hm : X.mg "range" = none) (ha : MB X c W a f) (hs1 : starEach [a] X.env = (false, eval a X.env) :: starEach [] X.env := by rfl) (hs : starEach [a] X.env = [(false, eval a X.env)] := by rfl) :
    MI X c W tg (.Call (.Name "range" p) [a] [] pos) (rg1 f) := PI.imp (pi_range1 hg hm (pa_cons ha pa_nil hs1) hs) fun σ H Rk ⟨G, ρ, ok, p⟩ => stepI ok p fun d G1 H1 v e1 g1 r1 ok1 p1 => by
  split at p1
  · rename_i j
    split at p1
    · rename_i hj
      obtain rfl := r1.int
      exact ⟨_, rfl, by omega, by omega, p1 G1 H1 _ _ (Gr.refl ok1.s) it_rng trivial⟩
    · exact p1.elim
  · exact p1.elim
theorem mi_range2 {tg a b : Expr} {f g : Rho → R D} {p pos : Pos} (hg : Gl X "range") (hm : X.mg "range" = none) (ha : MB X c W a f) (hb : MB X c W b g) (hs1 : starEach [a, b] X.env = (false, eval a X.env) :: starEach [b] X.env := by rfl) (hs2 : starEach [b] X.env = (false, eval b X.env) :: starEach [] X.env := by rfl)
    (hs : starEach [a, b] X.env = [(false, eval a X.env), (false, eval b X.env)] := by rfl) (hs3 : starEach [b] X.env = [(false, eval b X.env)] := by rfl) :
    MI X c W tg (.Call (.Name "range" p) [a, b] [] pos) (rg2 f g) := PI.imp (pi_range2 hg hm (pa_cons ha (pa_cons hb pa_nil hs2) hs1) hs hs3) fun σ H Rk ⟨G, ρ, ok, p⟩ => stepI ok p fun d G1 H1 v e1 g1 r1 ok1 p1 => stepI ok1 p1 fun d2 G2 H2 v2 e2 g2 r2 ok2 p2 => by
  split at p2
  · rename_i i j
    split at p2
    · rename_i hj
      obtain rfl := r1.int
      obtain rfl := r2.int
      exact ⟨_, _, rfl, by omega, p2 G2 H2 _ _ (Gr.refl ok2.s) it_rng trivial⟩
    · exact p2.elim
  · exact p2.elim
/-! zip, enumerate -/
def zipD (xs ys : List D) : List D := List.zipWith (fun x y => .tuple [x, y]) xs ys
theorem zip_get {xs ys : List D} {i : Nat} {d : D} (h : (zipD xs ys)[i]? = some d) : ∃ x y, xs[i]? = some x ∧ ys[i]? = some y ∧ d = .tuple [x, y] := by
  unfold zipD at h
  rw [List.getElem?_zipWith] at h
  split at h
  · rename_i x y e1 e2
    cases h
    exact ⟨x, y, e1, e2, rfl⟩
  · cases h
theorem pair_new {K : PySem.W.Frag} {ns : Sc} {G H : Hp} {T : Addr} {x y : V} {dx dy : D} (s : Sub G H) (hT : H T = none) (qx : Q K ns G x dx) (qy : Q K ns G y dy) : ∃ G', Gr G H G' (upd H T (.tup [x, y])) ∧ Q K ns G' (.ref T) (.tuple [dx, dy]) :=
  have sm := new_same (o := .tup [x, y]) (s.free hT)
  ⟨upd G T (.tup [x, y]), Gr.new s hT nt_tup, .tup (.inl (.inl upd_same)) (.cons (Q.mono sm _ _ qx) (.cons (Q.mono sm _ _ qy) .nil))⟩
theorem it_zipL {K : PySem.W.Frag} {ns : Sc} {a b : Addr} {us ws : List V} {xs ys : List D} : ItOk K ns (Itz K a b) (fun G => (G a = some (.lst us) ∧ QA K ns G us xs) ∧ G b = some (.lst ws) ∧ QA K ns G ws ys) (zipD xs ys) where
  mono := fun G G' s p => ⟨⟨s _ _ p.1.1, QA.mono s _ _ p.1.2⟩, s _ _ p.2.1, QA.mono s _ _ p.2.2⟩
  go := fun G H i d p s e => by
    obtain ⟨x, y, e1, e2, rfl⟩ := zip_get e
    obtain ⟨v, ev, q⟩ := p.1.2.get e1
    obtain ⟨w, ew, r⟩ := p.2.2.get e2
    exact ⟨us, ws, v, w, SqL.of (s _ _ p.1.1).1, SqL.of (s _ _ p.2.1).1, ev, ew⟩
  yld := fun G H i d x H' p s e y => by
    obtain ⟨T, v', w', rfl, hT, rfl, h1, h2⟩ := y
    obtain ⟨x, y, e1, e2, rfl⟩ := zip_get e
    obtain ⟨v, ev, q⟩ := p.1.2.get e1
    obtain ⟨w, ew, r⟩ := p.2.2.get e2
    have z1 := h1 us (SqL.of (s _ _ p.1.1).1)
    have z2 := h2 ws (SqL.of (s _ _ p.2.1).1)
    rw [ev] at z1
    rw [ew] at z2
    cases z1
    cases z2
    exact pair_new s hT q r
  stop := fun G H p s => ⟨us, ws, SqL.of (s _ _ p.1.1).1, SqL.of (s _ _ p.2.1).1, by
    rw [p.1.2.length, p.2.2.length]
    unfold zipD
    rw [List.length_zipWith]
    omega⟩
theorem it_zipT {K : PySem.W.Frag} {ns : Sc} {a b : Addr} {us ws : List V} {xs ys : List D} : ItOk K ns (RZ.ItzT K a b) (fun G => (SqT K G a us ∧ QA K ns G us xs) ∧ SqT K G b ws ∧ QA K ns G ws ys) (zipD xs ys) where
  mono := fun G G' s p => ⟨⟨SqT.same s p.1.1, QA.mono s _ _ p.1.2⟩, SqT.same s p.2.1, QA.mono s _ _ p.2.2⟩
  go := fun G H i d p s e => by
    obtain ⟨x, y, e1, e2, rfl⟩ := zip_get e
    obtain ⟨v, ev, q⟩ := p.1.2.get e1
    obtain ⟨w, ew, r⟩ := p.2.2.get e2
    exact ⟨us, ws, v, w, SqT.same s.same p.1.1, SqT.same s.same p.2.1, ev, ew⟩
  yld := fun G H i d x H' p s e y => by
    obtain ⟨T, v', w', rfl, hT, rfl, h1, h2⟩ := y
    obtain ⟨x, y, e1, e2, rfl⟩ := zip_get e
    obtain ⟨v, ev, q⟩ := p.1.2.get e1
    obtain ⟨w, ew, r⟩ := p.2.2.get e2
    have z1 := h1 us (SqT.same s.same p.1.1)
    have z2 := h2 ws (SqT.same s.same p.2.1)
    rw [ev] at z1
    rw [ew] at z2
    cases z1
    cases z2
    exact pair_new s hT q r
  stop := fun G H p s => ⟨us, ws, SqT.same s.same p.1.1, SqT.same s.same p.2.1, by
    rw [p.1.2.length, p.2.2.length]
    unfold zipD
    rw [List.length_zipWith]
    omega⟩
def zpE (f g : Rho → R D) : Rho → R (List D) := fun ρ => (f ρ).bind fun d => (g ρ).bind fun e => match d, e with
  | .list xs, .list ys => .ok (zipD xs ys)
  | .tuple xs, .tuple ys => .ok (zipD xs ys)
  | _, _ => .bad
theorem mi_zip {a b : Expr} {f g : Rho → R D} {p pos tpos : Pos} {elts : List Expr} {kk : Nat} (hg : Gl X "zip") (hm : X.mg "zip" = none) (ha : ME X c W a f) (hb : ME X c W b g) (hs1 : starEach [a, b] X.env = (false, eval a X.env) :: starEach [b] X.env := by rfl) (hs2 : starEach [b] X.env = (false, eval b X.env) :: starEach [] X.env := by rfl)
    (hpl : (backTo pos (starEach [b] X.env)).any (·.1) = false := by rfl) :
    MI X c W (.Tuple elts kk tpos) (.Call (.Name "zip" p) [a, b] [] pos) (zpE f g) := PI.imp (RZ.pi_zipA hg hm (pa_cons ha (pa_cons hb pa_nil hs2) hs1) hs1 hpl) fun σ H Rk ⟨G, ρ, ok, p⟩ => stepI ok p fun d G1 H1 v e1 g1 r1 ok1 p1 => stepI ok1 p1 fun d2 G2 H2 v2 e2 g2 r2 ok2 p2 => by
  have r1 := Q.mono g2.g _ _ r1
  split at p2
  · cases r1 with
    | lst h1 h2 =>
      cases r2 with
      | lst h3 h4 => exact ⟨_, _, _, _, rfl, .inl ⟨SqL.of (ok2.s _ _ h1).1, SqL.of (ok2.s _ _ h3).1, p2 G2 H2 _ _ (Gr.refl ok2.s) it_zipL ⟨⟨h1, h2⟩, h3, h4⟩⟩⟩
  · cases r1 with
    | tup h1 h2 =>
      cases r2 with
      | tup h3 h4 => exact ⟨_, _, _, _, rfl, .inr ⟨SqT.same ok2.s.same h1, SqT.same ok2.s.same h3, p2 G2 H2 _ _ (Gr.refl ok2.s) it_zipT ⟨⟨h1, h2⟩, h3, h4⟩⟩⟩
  · exact p2.elim
end

/-! ### targets -/
def TgOk (X : Cx) (c : Cm) (vs : List Nat) (g : TG) (b : D → Rho → Option Rho) : Prop := ∀ (G H : Hp) (σ : L2.St) (ρ : Rho) (x : V) (d : D) (ρ' : Rho) (Qk : L2.St → Hp → Prop), Ok X.K c G H ρ σ → Q X.K c.ns G x d → b d ρ = some ρ' →
  (∀ σ', Ok X.K c G H ρ' σ' → wipe σ' vs = wipe σ vs → Qk σ' H) → g x σ H Qk
def bName (i : Nat) : D → Rho → Option Rho := fun d ρ => some (ρ.set i (.d d))
def bNames : List Nat → List D → Rho → Option Rho
  | [], [], ρ => some ρ
  | i :: is, d :: ds, ρ => bNames is ds (ρ.set i (.d d))
  | _, _, _ => none
def bTup (is : List Nat) : D → Rho → Option Rho
  | .tuple xs, ρ => bNames is xs ρ
  | _, _ => none
theorem wipe_set {σ : L2.St} {i : Nat} {x : Option V} : ∀ {vs : List Nat}, i ∈ vs → wipe (σ.set i x) vs = wipe σ vs
  | [], h => by cases h
  | v :: vs, h => by
    unfold wipe
    by_cases hv : i ∈ vs
    · rw [wipe_set hv]
    · have hi : i = v := by
        rcases List.mem_cons.mp h with z | z
        · exact z
        · exact absurd z hv
      subst hi
      have : ∀ ws : List Nat, i ∉ ws → wipe (σ.set i x) ws = (wipe σ ws).set i x := by
        intro ws
        induction ws with
        | nil => intro _; rfl
        | cons w ws ih =>
          intro hw
          simp only [List.mem_cons, not_or] at hw
          unfold wipe
          rw [ih hw.2, List.set_comm _ _ hw.1]
      rw [this vs hv, List.set_set]
def wip (vs : List Nat) (ρ : Rho) : Rho := match vs with
  | [] => ρ
  | v :: vs => (wip vs ρ).set v .no
section
variable {X : Cx} {c : Cm} {W : WM}
theorem Ok.no {K : PySem.W.Frag} {G H : Hp} {ρ : Rho} {σ : L2.St} (h : Ok K c G H ρ σ) (i : Nat) : Ok K c G H (ρ.set i .no) (σ.set i none) := by
  refine ⟨h.s, h.e, by simp [h.len], fun j x e => ?_, fun j k a xs ys e1 e2 e3 e4 => ?_⟩
  · rcases getset e with ⟨rfl, rfl, hl⟩ | ⟨hj, e'⟩
    · trivial
    · rw [List.getElem?_set_ne hj]
      exact h.sl j x e'
  · rcases getset e1 with ⟨_, z, _⟩ | ⟨hj, e1'⟩
    · cases z
    · rcases getset e2 with ⟨_, z, _⟩ | ⟨hk, e2'⟩
      · cases z
      · rw [List.getElem?_set_ne hj] at e3
        rw [List.getElem?_set_ne hk] at e4
        exact h.dj j k a xs ys e1' e2' e3 e4
theorem Ok.wip {K : PySem.W.Frag} {G H : Hp} {ρ : Rho} {σ : L2.St} (h : Ok K c G H ρ σ) : ∀ vs : List Nat, Ok K c G H (wip vs ρ) (wipe σ vs)
  | [] => h
  | v :: vs => (Ok.wip h vs).no v
theorem wip_own {ρ : Rho} {j : Nat} {ys : List D} : ∀ {vs : List Nat}, (wip vs ρ)[j]? = some (.o ys) → ρ[j]? = some (.o ys)
  | [], h => h
  | v :: vs, h => by
    unfold M.wip at h
    rcases getset h with ⟨_, z, _⟩ | ⟨_, e⟩
    · cases z
    · exact wip_own e
theorem tg_name {vs : List Nat} (i : Nat) (hi : i ∈ vs := by simp) : TgOk X c vs (gName i) (bName i) := fun G H σ ρ x d ρ' Qk ok q e k => by
  cases e
  exact k _ (ok.setD i q) (wipe_set hi)
def TgsOk (X : Cx) (c : Cm) (vs : List Nat) (g : TGs) (is : List Nat) : Prop := ∀ (G H : Hp) (σ : L2.St) (ρ : Rho) (xs : List V) (ds : List D) (ρ' : Rho) (Qk : L2.St → Hp → Prop), Ok X.K c G H ρ σ → QA X.K c.ns G xs ds → bNames is ds ρ = some ρ' →
  (∀ σ', Ok X.K c G H ρ' σ' → wipe σ' vs = wipe σ vs → Qk σ' H) → g xs σ H Qk
theorem tgs_nil {vs : List Nat} : TgsOk X c vs gNil [] := fun G H σ ρ xs ds ρ' Qk ok q e k => by
  cases q with
  | nil => cases e; exact ⟨rfl, k σ ok rfl⟩
  | cons _ _ => cases e
theorem tgs_cons {vs : List Nat} (i : Nat) {g : TGs} {is : List Nat} (h : TgsOk X c vs g is) (hi : i ∈ vs := by simp) : TgsOk X c vs (gCons (gName i) g) (i :: is) := fun G H σ ρ xs ds ρ' Qk ok q e k => by
  cases q with
  | nil => cases e
  | cons q1 q2 => exact ⟨_, _, rfl, h G H _ _ _ _ ρ' Qk (ok.setD i q1) q2 e fun σ' ok' w => k σ' ok' (w.trans (wipe_set hi))⟩
theorem bNames_len : ∀ {is : List Nat} {ds : List D} {ρ ρ' : Rho}, bNames is ds ρ = some ρ' → ds.length = is.length
  | [], [], _, _, _ => rfl
  | i :: is, d :: ds, ρ, ρ', h => by
    have := bNames_len (is := is) (ds := ds) (ρ := ρ.set i (.d d)) (ρ' := ρ') h
    simp [this]
  | [], _ :: _, _, _, h => by cases h
  | _ :: _, [], _, _, h => by cases h
theorem tg_tup {vs : List Nat} {g : TGs} {is : List Nat} {n : Nat} (h : TgsOk X c vs g is) (hn : is.length = n := by rfl) : TgOk X c vs (gTup X.K n g) (bTup is) := fun G H σ ρ x d ρ' Qk ok q e k => by
  cases d with
  | tuple ds =>
    cases q with
    | tup h1 h2 => exact ⟨_, _, rfl, SqT.same ok.s.same h1, by rw [h2.length, bNames_len e, hn], h G H σ ρ _ ds ρ' Qk ok h2 e k⟩
  | _ => cases e
/-! ### for -/
def forL (b : D → Rho → Option Rho) (body : Rho → Out) : List D → Rho → Out
  | [], ρ => .nx ρ
  | x :: xs, ρ => match b x ρ with
    | none => .bad
    | some ρ1 => match body ρ1 with
      | .nx ρ' => forL b body xs ρ'
      | .ct ρ' => forL b body xs ρ'
      | .bk ρ' => .nx ρ'
      | .rt x => .rt x
      | .rf x => .rf x
      | .rz z ρ' => .rz z ρ'
      | .bad => .bad
def sFor (it : Rho → R (List D)) (b : D → Rho → Option Rho) (body : Rho → Out) : Rho → Out := fun ρ => (it ρ).out ρ fun xs => forL b body xs ρ
theorem stepSI {K : PySem.W.Frag} {G H : Hp} {σ : L2.St} {ρ : Rho} {De : Ends} {f : Rho → R (List D)} {F : List D → Out} {k : It → Hp → Prop} (ok : Ok K c G H ρ σ) (h : PostS K c W G De ((f ρ).out ρ F))
    (hk : ∀ xs G' H' J P, f ρ = .ok xs → Gr G H G' H' → ItOk K c.ns J P xs → P G' → Ok K c G' H' ρ σ → PostS K c W G' De (F xs) → k J H') : tIt K c W f σ H k := by
  refine ⟨G, ρ, ok, ?_⟩
  cases e : f ρ with
  | ok xs =>
    rw [e] at h
    exact fun G' H' J P g i p => hk xs G' H' J P e g i p (ok.gr g) (PostS.gr (o := F xs) h g.g)
  | rz z =>
    rw [e] at h
    exact fun G' H' g => h G' H' σ g.g (ok.gr g)
  | bad => rw [e] at h; exact h.elim
theorem ms_for {tg iter : Expr} {body : List Stmt} {it : Rho → R (List D)} {g : TG} {b : D → Rho → Option Rho} {fb : Rho → Out} {vs : List Nat} {pos : Pos} (hp : PassesOwn (model X.prog X.w) X.A X.env X.xe) (hc : X.calm = true) (hi : MI X c W tg iter it) (hg : PG X tg g) (tk : TgOk X c vs g b) (hb : MSs X c W body fb)
    (hs : ∀ x, foldedSetIterable iter X.env x = pure x := by intro _; rfl) : MS X c W (.For tg iter body [] pos) (sFor it b fb) :=
  PS.imp (ps_for hp hc hi hg hb hs) fun De σ H ⟨G, ρ, ok, p⟩ => stepSI ok p fun xs G1 H1 J P _ g1 I pG ok1 p1 => by
    refine ⟨fun i m σ H => i ≤ xs.length ∧ m = xs.length - i ∧ ∃ G ρ, Ok X.K c G H ρ σ ∧ P G ∧ PostS X.K c W G De (forL b fb (xs.drop i) ρ), ⟨xs.length, Nat.zero_le _, by simp, G1, ρ, ok1, pG, p1⟩, ?_⟩
    rintro i m σ H ⟨hi, rfl, G, ρ, ok, pG, p⟩
    by_cases hlt : i < xs.length
    · have ed : xs.drop i = xs[i] :: xs.drop (i + 1) := List.drop_eq_getElem_cons hlt
      have ex : xs[i]? = some xs[i] := List.getElem?_eq_getElem hlt
      rw [ed] at p
      refine .inr ⟨I.go G H i _ pG ok.s ex, fun σ' H' => ∃ G ρ, Ok X.K c G H' ρ σ' ∧ P G ∧ PostS X.K c W G De (forL b fb (xs.drop (i + 1)) ρ), fun σ' H' n => ⟨xs.length - (i + 1), by omega, hlt, rfl, n⟩, fun x H' y => ?_⟩
      obtain ⟨G', gr, q⟩ := I.yld G H i _ x H' pG ok.s ex y
      have ok' := ok.gr gr
      unfold forL at p
      cases eb : b xs[i] ρ with
      | none => rw [eb] at p; exact p.elim
      | some ρ1 =>
        rw [eb] at p
        dsimp only at p
        refine tk G' H' σ ρ x _ ρ1 _ ok' q eb fun σ' ok2 _ => ⟨G', ρ1, ok2, ?_⟩
        have pG' := I.mono G G' gr.g pG
        cases eo : fb ρ1 with
        | nx ρ2 =>
          rw [eo] at p
          exact fun G2 H2 σ2 s ok3 => ⟨G2, ρ2, ok3, I.mono _ _ s pG', PostS.gr (o := forL b fb (xs.drop (i + 1)) ρ2) p (gr.g.trans s)⟩
        | ct ρ2 =>
          rw [eo] at p
          exact fun G2 H2 σ2 s ok3 => ⟨G2, ρ2, ok3, I.mono _ _ s pG', PostS.gr (o := forL b fb (xs.drop (i + 1)) ρ2) p (gr.g.trans s)⟩
        | bk ρ2 =>
          rw [eo] at p
          exact fun G2 H2 σ2 s ok3 => p G2 H2 σ2 (gr.g.trans s) ok3
        | rt x => rw [eo] at p; exact p
        | rf x => rw [eo] at p; exact p
        | rz z ρ2 =>
          rw [eo] at p
          exact fun G2 H2 σ2 s ok3 => p G2 H2 σ2 (gr.g.trans s) ok3
        | bad => rw [eo] at p; exact p
    · have e : i = xs.length := by omega
      subst e
      rw [List.drop_length] at p
      exact .inl ⟨I.stop G H pG ok.s, p G H σ (Same.refl G) ok⟩
/-! ### while -/
def whL (t : Rho → R Bool) (body : Rho → Out) : Nat → Rho → Out
  | 0, _ => .bad
  | n + 1, ρ => (t ρ).out ρ fun b => if b then (match body ρ with
      | .nx ρ' => whL t body n ρ'
      | .ct ρ' => whL t body n ρ'
      | .bk ρ' => .nx ρ'
      | .rt x => .rt x
      | .rf x => .rf x
      | .rz z ρ' => .rz z ρ'
      | .bad => .bad) else .nx ρ
theorem ms_while (n : Nat) {t : Expr} {body : List Stmt} {ft : Rho → R Bool} {fb : Rho → Out} {pos : Pos} (hp : PassesOwn (model X.prog X.w) X.A X.env X.xe) (ht : MT X c W t ft) (hb : MSs X c W body fb) : MS X c W (.While t body [] pos) (whL ft fb n) :=
  PS.imp (ps_while hp ht hb) fun De σ H ⟨G, ρ, ok, p⟩ => by
    refine ⟨fun m σ H => ∃ G ρ, Ok X.K c G H ρ σ ∧ PostS X.K c W G De (whL ft fb m ρ), ⟨n, G, ρ, ok, p⟩, ?_⟩
    rintro m σ H ⟨G, ρ, ok, p⟩
    cases m with
    | zero => exact p.elim
    | succ m =>
      unfold whL at p
      refine stepS ok p fun b G1 H1 v _ g1 r1 ok1 p1 => ?_
      subst r1
      cases v with
      | false => exact p1 G1 H1 σ (Same.refl G1) ok1
      | true =>
        refine ⟨fun σ' H' => ∃ G ρ, Ok X.K c G H' ρ σ' ∧ PostS X.K c W G De (whL ft fb m ρ), fun σ' H' n => ⟨m, Nat.lt_succ_self m, n⟩, G1, ρ, ok1, ?_⟩
        rw [if_pos rfl] at p1
        cases eo : fb ρ with
        | nx ρ2 =>
          rw [eo] at p1
          exact fun G2 H2 σ2 s ok3 => ⟨G2, ρ2, ok3, PostS.gr (o := whL ft fb m ρ2) p1 s⟩
        | ct ρ2 =>
          rw [eo] at p1
          exact fun G2 H2 σ2 s ok3 => ⟨G2, ρ2, ok3, PostS.gr (o := whL ft fb m ρ2) p1 s⟩
        | bk ρ2 => rw [eo] at p1; exact p1
        | rt x => rw [eo] at p1; exact p1
        | rf x => rw [eo] at p1; exact p1
        | rz z ρ2 => rw [eo] at p1; exact p1
        | bad => rw [eo] at p1; exact p1
end
end M

namespace M
open PySem PySem.Spec PyProof.Rows L2

/-! ### a list that is being made -/
theorem tabs_poke {H : Hp} {a : Addr} {us ws : List V} (ha : H a = some (.lst us)) {T : Addr} (t : TabQ H T) : TabQ (upd H a (.lst ws)) T := by
  obtain ⟨ps, t1, t2, t3⟩ := t
  refine ⟨ps, by rw [upd_ne (fun z => by rw [z, ha] at t1; cases t1)]; exact t1, t2, fun pos cv hc => ?_⟩
  obtain ⟨cc, c1, c2⟩ := t3 pos cv hc
  exact ⟨cc, c1, by rw [upd_ne (fun z => by rw [z, ha] at c2; cases c2)]; exact c2⟩
section
variable {K : PySem.W.Frag} {c : Cm} {G H G1 H1 : Hp} {ρ : Rho} {σ : L2.St} {a : Addr} {us ws : List V}
theorem Sub.poke (s : Sub G H) (ga : G a = none) : Sub G (upd H a (.lst ws)) := fun b o hg => by
  rw [upd_ne (fun z => by subst z; rw [ga] at hg; cases hg)]
  exact s b o hg
theorem Gr.poke (g : Gr G1 H1 G H) (n : Nw H1 a) (ha : H a = some (.lst us)) (ga : G a = none) : Gr G1 H1 G (upd H a (.lst ws)) :=
  ⟨g.g, ⟨fun b o e ht => by rw [upd_ne (fun z => by subst z; exact n o e ht)]; exact g.h.keep b o e ht, fun T t => tabs_poke ha (g.h.tabs T t)⟩, g.s.poke ga, g.n⟩
theorem Ok.poke (h : Ok K c G H ρ σ) (ha : H a = some (.lst us)) (ga : G a = none) (n0 : Nw c.H0 a) (ap : ∀ (j : Nat) (ys : List D), ρ[j]? = some (Sl.o ys) → σ[j]? ≠ some (some (V.ref a))) : Ok K c G (upd H a (.lst ws)) ρ σ :=
  ⟨h.s.poke ga, h.e.poke n0 ha ga, h.len, fun j x e => by
    have := h.sl j x e
    cases x with
    | no => trivial
    | d x => exact this
    | o ys =>
      obtain ⟨b, vs, e3, hb, gb, nb, qb⟩ := this
      exact ⟨b, vs, e3, by rw [upd_ne (fun z => ap j ys e (by rw [← z]; exact e3))]; exact hb, gb, nb, qb⟩, h.dj⟩
theorem Gr.seal (g : Gr G1 H1 G H) (n : Nw H1 a) (ha : H a = some (.lst us)) (ga : G a = none) : Gr G1 H1 (upd G a (.lst us)) H :=
  ⟨g.g.trans (new_same ga), g.h, fun b o e => by
    by_cases z : b = a
    · subst z
      rw [upd_same] at e
      cases e
      exact ⟨ha, nt_lst⟩
    · rw [upd_ne z] at e
      exact g.s b o e, fun b o e ht gb => by
    rw [upd_ne (fun z => by subst z; exact n o e ht)]
    exact g.n b o e ht gb⟩
end

theorem wipe_wipe {σ : L2.St} {vs : List Nat} : ∀ us : List Nat, (∀ u ∈ us, u ∈ vs) → wipe (wipe σ us) vs = wipe σ vs
  | [], _ => rfl
  | u :: us, h => by
    have e : wipe σ (u :: us) = (wipe σ us).set u none := rfl
    rw [e, wipe_set (h u (by simp)), wipe_wipe us fun x hx => h x (by simp [hx])]
/-! ### comprehensions -/
def lcL (b : D → Rho → Option Rho) (t : Rho → R Bool) (f : Rho → R D) (ρ : Rho) : List D → Option (List D)
  | [] => some []
  | x :: xs => match b x ρ with
    | none => none
    | some ρ1 => match t ρ1 with
      | .ok false => lcL b t f ρ xs
      | .ok true => match f ρ1 with
        | .ok y => match lcL b t f ρ xs with
          | some ys => some (y :: ys)
          | none => none
        | _ => none
      | _ => none
def lcE (vs : List Nat) (it : Rho → R (List D)) (b : D → Rho → Option Rho) (t : Rho → R Bool) (f : Rho → R D) : Rho → R (List D) := fun ρ => (it ρ).bind fun xs => if xs.length ≤ 1000000 then R.of (lcL b t f (wip vs ρ) xs) else .bad
def lcD (f : Rho → R (List D)) : Rho → R D := fun ρ => (f ρ).bind fun xs => .ok (.list xs)
section
variable {X : Cx} {c : Cm} {W : WM}
theorem lc_walk {K : PySem.W.Frag} (hK : X.K = K) {g : TG} {b : D → Rho → Option Rho} {ft : Rho → R Bool} {f : Rho → R D} {vs : List Nat} {tt : TT} {te : TE} (tk : TgOk X c vs g b)
    (ht : ∀ σ H Q, tR K c W0 RelT ft σ H Q → tt σ H Q) (he : ∀ σ H Q, tR K c W0 (RelQ K c.ns) f σ H Q → te σ H Q)
    {J : It} {P : Hp → Prop} {xs all : List D} (I : ItOk K c.ns J P xs) {G1 H1 : Hp} {ρ : Rho} {σ : L2.St} (ok1 : Ok K c G1 H1 ρ σ) (pG : P G1) (hz : xs.length ≤ 1000000) (ha : lcL b ft f (wip vs ρ) xs = some all) {Da : Addr} (hD : H1 Da = none) {Qd : Hp → Prop}
    (hq : ∀ G' H' us, Gr G1 H1 G' H' → Nw H1 Da → H' Da = some (.lst us) → G' Da = none → QA K c.ns G' us all → Qd H') :
    ∃ Wv : Nat → Nat → Hp → Prop, (∃ m, Wv 0 m (upd H1 Da (.lst []))) ∧ ∀ i m H, Wv i m H → (J.stop i H ∧ Qd H) ∨ (J.go i H ∧ ∃ Nx : Hp → Prop, (∀ H', Nx H' → ∃ m', m' < m ∧ Wv (i + 1) m' H') ∧ ∀ x H', J.yld i H x H' → g x (wipe σ vs) H' fun σ2 H2 => wipe σ2 vs = wipe σ vs ∧ tt σ2 H2 fun b H3 =>
    if b = true then te σ2 H3 fun y H4 => ∃ acc, H4 Da = some (.lst acc) ∧ acc.length < sizeLine ∧ Nx (upd H4 Da (.lst (acc ++ [y]))) else Nx H3) := by
  subst hK
  have nD : Nw H1 Da := Nw.none hD
  have n0 : Nw c.H0 Da := nD.of ok1.e.h
  have ap : ∀ (j : Nat) (ys : List D), (wip vs ρ)[j]? = some (Sl.o ys) → (wipe σ vs)[j]? ≠ some (some (V.ref Da)) := fun j ys e z => ok1.apart nD (wip_own e) (wipe_some z).1
  let Inv' : Nat → Hp → Prop := fun i H => ∃ G us ys zs, Gr G1 H1 G H ∧ Ok X.K c G H (wip vs ρ) (wipe σ vs) ∧ P G ∧ H Da = some (.lst us) ∧ G Da = none ∧ QA X.K c.ns G us ys ∧ ys.length ≤ i ∧ lcL b ft f (wip vs ρ) (xs.drop i) = some zs ∧ all = ys ++ zs
  refine ⟨fun i m H => i ≤ xs.length ∧ m = xs.length - i ∧ Inv' i H, ⟨xs.length, Nat.zero_le _, by simp, G1, [], [], all, Gr.own ok1.s hD, (ok1.wip vs).gr (Gr.own ok1.s hD), pG, upd_same, ok1.s.free hD, .nil, Nat.zero_le _, ha, rfl⟩, ?_⟩
  rintro i m H ⟨hi, rfl, G, us, ys, zs, gr, ok, pG, hd, gd, q, hl, hz', hall⟩
  by_cases hlt : i < xs.length
  · have ed : xs.drop i = xs[i] :: xs.drop (i + 1) := List.drop_eq_getElem_cons hlt
    have ex : xs[i]? = some xs[i] := List.getElem?_eq_getElem hlt
    rw [ed] at hz'
    refine .inr ⟨I.go G H i _ pG ok.s ex, Inv' (i + 1), fun H' n => ⟨xs.length - (i + 1), by omega, hlt, rfl, n⟩, fun x H' y => ?_⟩
    obtain ⟨G', gr', q'⟩ := I.yld G H i _ x H' pG ok.s ex y
    unfold lcL at hz'
    cases eb : b xs[i] (wip vs ρ) with
    | none => rw [eb] at hz'; cases hz'
    | some ρ1 =>
      rw [eb] at hz'
      dsimp only at hz'
      refine tk G' H' _ _ x _ ρ1 _ (ok.gr gr') q' eb fun σ2 ok2 hw => ⟨hw.trans (wipe_wipe vs fun _ z => z), ht _ _ _ ⟨G', ρ1, ok2, ?_⟩⟩
      cases et : ft ρ1 with
      | rz z => rw [et] at hz'; cases hz'
      | bad => rw [et] at hz'; cases hz'
      | ok bv =>
        intro G3 H3 v g3 r3
        subst r3
        have grT := (gr.trans gr').trans g3
        have pG3 := I.mono _ _ (gr'.g.trans g3.g) pG
        have okT := (ok.gr gr').gr g3
        have hd3 := g3.h.keep _ _ (gr'.h.keep _ _ hd nt_lst) nt_lst
        have gd3 := g3.n _ _ (gr'.h.keep _ _ hd nt_lst) nt_lst (gr'.n _ _ hd nt_lst gd)
        have q3 := QA.mono (gr'.g.trans g3.g) _ _ q
        cases v with
        | false =>
          rw [et] at hz'
          exact ⟨G3, us, ys, zs, grT, okT, pG3, hd3, gd3, q3, by omega, hz', hall⟩
        | true =>
          rw [et] at hz'
          dsimp only at hz'
          rw [if_pos rfl]
          refine he _ _ _ ⟨G3, ρ1, ok2.gr g3, ?_⟩
          cases ef : f ρ1 with
          | rz z => rw [ef] at hz'; cases hz'
          | bad => rw [ef] at hz'; cases hz'
          | ok y' =>
            rw [ef] at hz'
            dsimp only at hz'
            intro G4 H4 v4 g4 r4
            cases el : lcL b ft f (wip vs ρ) (xs.drop (i + 1)) with
            | none => rw [el] at hz'; cases hz'
            | some zs' =>
              rw [el] at hz'
              cases hz'
              have hd4 := g4.h.keep _ _ hd3 nt_lst
              have gd4 := g4.n _ _ hd3 nt_lst gd3
              have q4 := QA.mono g4.g _ _ q3
              refine ⟨us, hd4, szl (by rw [q4.length]; omega), G4, us ++ [v4], ys ++ [y'], zs', (grT.trans g4).poke nD hd4 gd4, (okT.gr g4).poke hd4 gd4 n0 ap, I.mono _ _ g4.g pG3, upd_same, gd4, q4.append (.cons r4 .nil), by simp; omega, el, by simp [hall]⟩
  · have e : i = xs.length := by omega
    subst e
    rw [List.drop_length] at hz'
    cases hz'
    rw [List.append_nil] at hall
    subst hall
    exact .inl ⟨I.stop G H pG ok.s, hq G H us gr nD hd gd q⟩
def yes : Rho → R Bool := cst true
theorem yes_ok {K : PySem.W.Frag} {σ : L2.St} {H : Hp} {Q : Bool → Hp → Prop} (h : tR K c W0 RelT yes σ H Q) : tYes σ H Q := by
  obtain ⟨G, ρ, ok, p⟩ := h
  exact p G H true (Gr.refl ok.s) rfl
/-- [e for .. in .. if ..], as data -/
theorem me_lc {elt tg iter : Expr} {ifs : List Expr} {scope : Scope} {own : List (Str × Nat)} {pos : Pos} {it : Rho → R (List D)} {g : TG} {b : D → Rho → Option Rho} {ft : Rho → R Bool} {f : Rho → R D} {tt : TT} (hc : X.calm = true) (hN : X.N.Nodup) (hi : MI X c W tg iter it) (okb : BlkOk X.N X.env.scope scope own)
    (hg : ∀ (s : Shared) (H : Hp) (C : Addr) (cl : List (Str × Addr)) (fp : List Addr), PG (X.blk s H scope (compEnvC scope cl C X.env) fp) tg g) (tk : TgOk X c (own.map (·.2)) g b) (ht : ∀ (s : Shared) (H : Hp) (C : Addr) (cl : List (Str × Addr)) (fp : List Addr), PTs (X.blk s H scope (compEnvC scope cl C X.env) fp) ifs tt) (htt : ∀ σ H Q, tR X.K c W0 RelT ft σ H Q → tt σ H Q)
    (he : ∀ (s : Shared) (H : Hp) (C : Addr) (cl : List (Str × Addr)) (fp : List Addr), ME (X.blk s H scope (compEnvC scope cl C X.env) fp) c W0 elt f) (hs : ∀ x, foldedSetIterable iter X.env x = pure x := by intro _; rfl) :
    ME X c W (.ListComp elt [⟨tg, iter, ifs, 0⟩] scope pos) (lcD (lcE (own.map (·.2)) it b ft f)) :=
  PE.imp (pe_lc hc hN hi okb hg ht he hs) fun σ H Qk ⟨G, ρ, ok, p⟩ => by
    refine ⟨G, ρ, ok, ?_⟩
    unfold lcD lcE at p
    cases e : it ρ with
    | bad => rw [e] at p; exact p.elim
    | rz z => rw [e] at p; exact p
    | ok xs =>
      rw [e] at p
      intro G1 H1 J P g1 I pG Da hD
      change Post W (RelQ X.K c.ns) G H σ Qk (R.bind (if xs.length ≤ 1000000 then R.of (lcL b ft f (wip (own.map (·.2)) ρ) xs) else .bad) _) at p
      by_cases hz : xs.length ≤ 1000000
      · rw [if_pos hz] at p
        cases ha : lcL b ft f (wip (own.map (·.2)) ρ) xs with
        | none => rw [ha] at p; exact p.elim
        | some all =>
          rw [ha] at p
          exact lc_walk rfl tk htt (fun _ _ _ z => z) I (ok.gr g1) pG hz ha hD fun G' H' us g' n hd gd q => p (upd G' Da (.lst us)) H' _ (g1.trans (g'.seal n hd gd)) (.lst upd_same (QA.mono (new_same gd) _ _ q))
      · rw [if_neg hz] at p; exact p.elim
/-- .. as a list of one's own -/
theorem mn_lc {elt tg iter : Expr} {ifs : List Expr} {scope : Scope} {own : List (Str × Nat)} {pos : Pos} {it : Rho → R (List D)} {g : TG} {b : D → Rho → Option Rho} {ft : Rho → R Bool} {f : Rho → R D} {tt : TT} (hc : X.calm = true) (hN : X.N.Nodup) (hi : MI X c W tg iter it) (okb : BlkOk X.N X.env.scope scope own)
    (hg : ∀ (s : Shared) (H : Hp) (C : Addr) (cl : List (Str × Addr)) (fp : List Addr), PG (X.blk s H scope (compEnvC scope cl C X.env) fp) tg g) (tk : TgOk X c (own.map (·.2)) g b) (ht : ∀ (s : Shared) (H : Hp) (C : Addr) (cl : List (Str × Addr)) (fp : List Addr), PTs (X.blk s H scope (compEnvC scope cl C X.env) fp) ifs tt) (htt : ∀ σ H Q, tR X.K c W0 RelT ft σ H Q → tt σ H Q)
    (he : ∀ (s : Shared) (H : Hp) (C : Addr) (cl : List (Str × Addr)) (fp : List Addr), ME (X.blk s H scope (compEnvC scope cl C X.env) fp) c W0 elt f) (hs : ∀ x, foldedSetIterable iter X.env x = pure x := by intro _; rfl) :
    MN X c W (.ListComp elt [⟨tg, iter, ifs, 0⟩] scope pos) (nO (lcE (own.map (·.2)) it b ft f)) :=
  PE.imp (pe_lc hc hN hi okb hg ht he hs) fun σ H Qk ⟨G, ρ, ok, p⟩ => by
    refine ⟨G, ρ, ok, ?_⟩
    unfold nO lcE at p
    cases e : it ρ with
    | bad => rw [e] at p; exact p.elim
    | rz z => rw [e] at p; exact p
    | ok xs =>
      rw [e] at p
      intro G1 H1 J P g1 I pG Da hD
      change PostN X.K c W G H σ Qk (R.bind (if xs.length ≤ 1000000 then R.of (lcL b ft f (wip (own.map (·.2)) ρ) xs) else .bad) _) at p
      by_cases hz : xs.length ≤ 1000000
      · rw [if_pos hz] at p
        cases ha : lcL b ft f (wip (own.map (·.2)) ρ) xs with
        | none => rw [ha] at p; exact p.elim
        | some all =>
          rw [ha] at p
          exact lc_walk rfl tk htt (fun _ _ _ z => z) I (ok.gr g1) pG hz ha hD fun G' H' us g' n hd gd q => p G' H' _ (g1.trans g') ⟨Da, us, rfl, hd, gd, n.of g1.h, q⟩
      · rw [if_neg hz] at p; exact p.elim
/-- y = [..] on one line -/
theorem ms_setLc {i : Nat} {y : Str} {py : Pos} {elt tg iter : Expr} {ifs : List Expr} {scope : Scope} {own : List (Str × Nat)} {pos spos : Pos} {it : Rho → R (List D)} {g : TG} {b : D → Rho → Option Rho} {ft : Rho → R Bool} {f : Rho → R D} {tt : TT} (hc : X.calm = true) (hN : X.N.Nodup) (hy : X.N[i]? = some y) (hyl : X.env.scope.names.lookup y = some .local)
    (hsw : swapsWith (.ListComp elt [⟨tg, iter, ifs, 0⟩] scope pos) (some (.Name y py)) spos.line X.env = pure true) (hi : MI X c W tg iter it) (okb : BlkOk X.N X.env.scope scope own)
    (hg : ∀ (s : Shared) (H : Hp) (C : Addr) (cl : List (Str × Addr)) (fp : List Addr), PG (X.blk s H scope (compEnvC scope cl C X.env) fp) tg g) (tk : TgOk X c (own.map (·.2)) g b) (ht : ∀ (s : Shared) (H : Hp) (C : Addr) (cl : List (Str × Addr)) (fp : List Addr), PTs (X.blk s H scope (compEnvC scope cl C X.env) fp) ifs tt) (htt : ∀ σ H Q, tR X.K c W0 RelT ft σ H Q → tt σ H Q)
    (he : ∀ (s : Shared) (H : Hp) (C : Addr) (cl : List (Str × Addr)) (fp : List Addr), ME (X.blk s H scope (compEnvC scope cl C X.env) fp) c W0 elt f) (hs : ∀ x, foldedSetIterable iter X.env x = pure x := by intro _; rfl) :
    MS X c W (.Assign [.Name y py] (.ListComp elt [⟨tg, iter, ifs, 0⟩] scope pos) spos) (sSet i (nO (lcE (own.map (·.2)) it b ft f))) :=
  PS.imp (ps_setLc hc hN hy hyl hsw hi okb hg ht he hs) fun De σ H ⟨G, ρ, ok, p⟩ => by
    refine ⟨G, ρ, ok, ?_⟩
    unfold sSet nO lcE at p
    cases e : it ρ with
    | bad => rw [e] at p; exact p.elim
    | rz z =>
      rw [e] at p
      exact fun G' H' g => p G' H' σ g.g (ok.gr g)
    | ok xs =>
      rw [e] at p
      intro G1 H1 J P g1 I pG Da hD
      change PostS X.K c W G De (R.out (R.bind (if xs.length ≤ 1000000 then R.of (lcL b ft f (wip (own.map (·.2)) ρ) xs) else .bad) _) ρ _) at p
      by_cases hz : xs.length ≤ 1000000
      · rw [if_pos hz] at p
        cases ha : lcL b ft f (wip (own.map (·.2)) ρ) xs with
        | none => rw [ha] at p; exact p.elim
        | some all =>
          rw [ha] at p
          exact lc_walk rfl tk htt (fun _ _ _ z => z) I (ok.gr g1) pG hz ha hD fun G' H' us g' n hd gd q => p G' H' _ (g1.g.trans g'.g) (ok.new (g1.trans g') i ⟨Da, us, rfl, hd, gd, n.of g1.h, q⟩)
      · rw [if_neg hz] at p; exact p.elim
end

/-! ### defs -/
def fnM (ar n : Nat) (body : Rho → Out) (ds : List D) : Out := if ds.length = ar then (match body (ds.map .d ++ List.replicate (n - ds.length) .no) with
  | .nx _ => .rt .none
  | .rt x => .rt x
  | .rf xs => .rf xs
  | .rz z _ => .rz z []
  | _ => .bad) else .bad
def fnM0 (ar n : Nat) (body : Rho → Out) (ds : List D) : Out := match fnM ar n body ds with
  | .rt x => .rt x
  | .rf xs => .rf xs
  | _ => .bad
def spM (K : PySem.W.Frag) (ns : Sc) (mg : Str → Option Value) (f : List D → Out) : Sp := fun vs H Qk E => ∃ G ds, Sub G H ∧ QA K ns G vs ds ∧ match f ds with
  | .rt x => ∀ G' H' v, Gr G H G' H' → Q K ns G' v x → Qk v H'
  | .rf xs => ∀ G' H' a us, Gr G H G' H' → Nw H a → H' a = some (.lst us) → G' a = none → QA K ns G' us xs → Qk (.ref a) H'
  | .rz z _ => ∀ G' H', Gr G H G' H' → ∀ C, mg z = some (.ref C) → E (.ref C) none H'
  | _ => False
theorem start_ok {K : PySem.W.Frag} {ns : Sc} {G H : Hp} {vs : List V} {ds : List D} {N : List Str} (s : Sub G H) (q : QA K ns G vs ds) : Ok K ⟨ns, G, H⟩ G H (ds.map .d ++ List.replicate (N.length - ds.length) .no) (start N vs) := by
  have hl := q.length
  refine ⟨s, Gr.refl s, by simp [L2.start, hl], fun i x e => ?_, fun i j a xs ys e1 e2 e3 e4 => ?_⟩
  · unfold L2.start
    by_cases hi : i < ds.length
    · rw [List.getElem?_append_left (by simpa using hi), List.getElem?_map] at e
      cases ed : ds[i]? with
      | none => rw [ed] at e; cases e
      | some d =>
        rw [ed] at e
        cases e
        obtain ⟨v, ev, qv⟩ := q.get ed
        rw [List.getElem?_append_left (by simp; omega), List.getElem?_map, ev]
        exact ⟨v, rfl, qv⟩
    · rw [List.getElem?_append_right (by simpa using hi)] at e
      have := List.mem_of_getElem? e
      rw [List.mem_replicate] at this
      rw [this.2]
      trivial
  · by_cases hi : i < ds.length
    · rw [List.getElem?_append_left (by simpa using hi), List.getElem?_map] at e1
      cases ed : ds[i]? with
      | none => rw [ed] at e1; cases e1
      | some d => rw [ed] at e1; cases e1
    · rw [List.getElem?_append_right (by simpa using hi)] at e1
      have := List.mem_of_getElem? e1
      rw [List.mem_replicate] at this
      cases this.2
/-- a def out of which nothing is raised -/
theorem fnOk {P : Program} {w : World} {K : PySem.W.Frag} {mg : Str → Option Value} {base : Heap} {x qual : Str} {st : Stmt} {f : Addr} {fd : FuncData} {N ps : List Str} {k : Nat} {ns : Sc} {body : Rho → Out} (F : Fun K x qual st f fd) (S : FnScope N ps (defScope st))
    (hb : ∀ (cdv : Value) (A : Around) (outer : List Env) (s : Shared) (H : Hp) (E : XK) (c : Cm), c.ns = ns → Room k (A.deeper (envOfC qual (defScope st) s.heap.objs.size f cdv)) → MSs (cxOf CX0 P w K mg base N qual (defScope st) f cdv A outer s H E).nox c W0 (defBody st) body) :
    FnOk P w K mg base CX0 (k + 1) f fd ps (spM K ns mg (fnM0 ps.length N.length body)) := by
  refine F.ok S (fun vs H Qk E h => ?_) (fun cdv A outer s H vs Qk E hr h => ?_)
  · obtain ⟨G, ds, s, q, h⟩ := h
    unfold fnM0 fnM at h
    by_cases hl : ds.length = ps.length
    · rw [q.length, hl]
    · rw [if_neg hl] at h; exact h.elim
  · obtain ⟨G, ds, s', q, h⟩ := h
    refine ⟨_, hb cdv A outer s H E ⟨ns, G, H⟩ rfl hr, G, _, start_ok s' q, ?_⟩
    unfold fnM0 fnM at h
    by_cases hl : ds.length = ps.length
    · rw [if_pos hl] at h
      cases e : body (ds.map .d ++ List.replicate (N.length - ds.length) .no) with
      | nx ρ =>
        rw [e] at h
        exact fun G' H' σ s ok => h G' H' _ ok.e .non
      | rt x => rw [e] at h; exact fun G' H' v g q => h G' H' v g q
      | rf x => rw [e] at h; exact fun G' H' a us g n h1 h2 q => h G' H' a us g n h1 h2 q
      | rz z ρ => rw [e] at h; exact h.elim
      | bk ρ => rw [e] at h; exact h.elim
      | ct ρ => rw [e] at h; exact h.elim
      | bad => rw [e] at h; exact h.elim
    · rw [if_neg hl] at h; exact h.elim

/-! ### calls -/
def Out.r : Out → R D
  | .rt x => .ok x
  | .rf xs => .ok (.list xs)
  | .rz z _ => .rz z
  | _ => .bad
def Out.s : Out → R Sl
  | .rt x => .ok (.d x)
  | .rf xs => .ok (.o xs)
  | .rz z _ => .rz z
  | _ => .bad
def call (f : List D → Out) (g : Rho → R (List D)) : Rho → R D := fun ρ => (g ρ).bind fun ds => (f ds).r
def ncall (f : List D → Out) (g : Rho → R (List D)) : Rho → R Sl := fun ρ => (g ρ).bind fun ds => (f ds).s
section
variable {X : Cx} {c : Cm}
theorem me_call {k : Nat} {fa : Addr} {fd : FuncData} {ps : List Str} {x : Str} {p pos : Pos} {e : Expr} {es : List Expr} {f : List D → Out} {g : Rho → R (List D)} (F : FnOk X.prog X.w X.K X.mg X.base CX0 k fa fd ps (spM X.K c.ns X.mg f)) (hr : Room k X.A) (hg : Gl X x) (hm : X.mg x = some (.ref fa)) (hk : PySem.W.keepIn X.K (.ref fa) = true) (hb : Binds X.K fd ps [])
    (ha : MA X c W0 (e :: es) g) (hdb : (x == ("__debug__" : Str)) = false := by decide) (he : starEach (e :: es) X.env = (false, eval e X.env) :: starEach es X.env := by rfl) (hpl : (backTo pos (starEach es X.env)).any (·.1) = false := by rfl) :
    ME X c W0 (.Call (.Name x p) (e :: es) [] pos) (call f g) :=
  PE.imp (pe_call F hr hg hm hk hb .nil pass0 ha hdb he hpl) fun σ H Qk ⟨G, ρ, ok, p⟩ => step ok p fun ds G1 H1 vs _ g1 r1 ok1 p1 => by
    show spM X.K c.ns X.mg f (vs ++ []) H1 Qk E0
    rw [List.append_nil]
    refine ⟨G1, ds, ok1.s, r1, ?_⟩
    cases e : f ds with
    | rt x => rw [e] at p1; exact p1
    | rf xs =>
      rw [e] at p1
      exact fun G' H' a us g n h1 h2 q => p1 (upd G' a (.lst us)) H' _ (g.seal n h1 h2) (.lst upd_same (QA.mono (new_same h2) _ _ q))
    | rz z ρ' => rw [e] at p1; exact fun G' H' g C _ => p1 G' H' g
    | _ => rw [e] at p1; exact p1.elim
theorem mn_call {k : Nat} {fa : Addr} {fd : FuncData} {ps : List Str} {x : Str} {p pos : Pos} {e : Expr} {es : List Expr} {f : List D → Out} {g : Rho → R (List D)} (F : FnOk X.prog X.w X.K X.mg X.base CX0 k fa fd ps (spM X.K c.ns X.mg f)) (hr : Room k X.A) (hg : Gl X x) (hm : X.mg x = some (.ref fa)) (hk : PySem.W.keepIn X.K (.ref fa) = true) (hb : Binds X.K fd ps [])
    (ha : MA X c W0 (e :: es) g) (hdb : (x == ("__debug__" : Str)) = false := by decide) (he : starEach (e :: es) X.env = (false, eval e X.env) :: starEach es X.env := by rfl) (hpl : (backTo pos (starEach es X.env)).any (·.1) = false := by rfl) :
    MN X c W0 (.Call (.Name x p) (e :: es) [] pos) (ncall f g) :=
  PE.imp (pe_call F hr hg hm hk hb .nil pass0 ha hdb he hpl) fun σ H Qk ⟨G, ρ, ok, p⟩ => stepN ok p fun ds G1 H1 vs _ g1 r1 ok1 p1 => by
    show spM X.K c.ns X.mg f (vs ++ []) H1 Qk E0
    rw [List.append_nil]
    refine ⟨G1, ds, ok1.s, r1, ?_⟩
    cases e : f ds with
    | rt x => rw [e] at p1; exact fun G' H' v g q => p1 G' H' v g q
    | rf xs =>
      rw [e] at p1
      exact fun G' H' a us g n h1 h2 q => p1 G' H' _ g ⟨a, us, rfl, h1, h2, n, q⟩
    | rz z ρ' => rw [e] at p1; exact fun G' H' g C _ => p1 G' H' g
    | _ => rw [e] at p1; exact p1.elim
end

/-! ### a, b = x, y -/
def sPar (i j : Nat) (f g : Rho → R Sl) : Rho → Out := fun ρ => (f ρ).out ρ fun s => (g ρ).out ρ fun t => .nx ((ρ.set i s).set j t)
def sPar3 (i j l : Nat) (f g h : Rho → R Sl) : Rho → Out := fun ρ => (f ρ).out ρ fun s => (g ρ).out ρ fun t => (h ρ).out ρ fun u => .nx (((ρ.set i s).set j t).set l u)
section
variable {X : Cx} {c : Cm} {W : WM}
/-- a value that waits to be stored, kept while another one is made -/
theorem two {K : PySem.W.Frag} {G H G1 H1 G2 H2 : Hp} {ρ : Rho} {σ : L2.St} {i j : Nat} {v w : V} {s t : Sl} (ok : Ok K c G H ρ σ) (g1 : Gr G H G1 H1) (r1 : NwSl K c H G1 H1 v s) (g2 : Gr G1 H1 G2 H2) (r2 : NwSl K c H1 G2 H2 w t) (hij : i ≠ j) :
    Ok K c G2 H2 ((ρ.set i s).set j t) ((σ.set i (some v)).set j (some w)) := by
  have ok1 := ok.new g1 i r1
  exact ok1.new g2 j r2
end
end M

namespace M
open PySem PySem.Spec PyProof.Rows L2

section
variable {X : Cx} {c : Cm} {W : WM}
/-! ### a, b = x, y -/
theorem ms_par {i j : Nat} {x y : Str} {a b : Expr} {f g : Rho → R Sl} {px py pt pos : Pos} {kt k2 pt2} (hc : X.calm = true) (hN : X.N.Nodup) (hi : X.N[i]? = some x) (hj : X.N[j]? = some y) (hij : i ≠ j)
    (hx : X.env.scope.names.lookup x = some .local) (hy : X.env.scope.names.lookup y = some .local) (ha : MN X c W a f) (hb : MN X c W b g)
    (hw : swappedStores [.Tuple [.Name x px, .Name y py] kt pt] (.Tuple [a, b] k2 pt2) X.env = pure (some [x, y]))
    (hs : swapsWithSole [.Tuple [.Name x px, .Name y py] kt pt] (.Tuple [a, b] k2 pt2) pos.line X.env = pure false := by rfl) (s1 : starEach [a, b] X.env = (false, eval a X.env) :: starEach [b] X.env := by rfl) (s2 : starEach [b] X.env = (false, eval b X.env) :: starEach [] X.env := by rfl) :
    MS X c W (.Assign [.Tuple [.Name x px, .Name y py] kt pt] (.Tuple [a, b] k2 pt2) pos) (sPar i j f g) :=
  PS.imp (ps_par hc hN hi hj hij hx hy (pa_cons ha (pa_cons hb pa_nil s2) s1) hw hs) fun De σ H ⟨G, ρ, ok, p⟩ => stepSN ok p fun s G1 H1 v _ g1 r1 ok1 p1 => stepSN ok1 p1 fun t G2 H2 w _ g2 r2 ok2 p2 =>
    ⟨v, w, rfl, p2 G2 H2 _ (Same.refl G2) ((ok.new g1 i r1).new g2 j r2)⟩
theorem ms_par3 {i j l : Nat} {x y z : Str} {a b d : Expr} {f g h : Rho → R Sl} {px py pz pt pos : Pos} {kt k2 pt2} (hc : X.calm = true) (hN : X.N.Nodup) (hi : X.N[i]? = some x) (hj : X.N[j]? = some y) (hl : X.N[l]? = some z) (hij : i ≠ j) (hil : i ≠ l) (hjl : j ≠ l)
    (hx : X.env.scope.names.lookup x = some .local) (hy : X.env.scope.names.lookup y = some .local) (hz : X.env.scope.names.lookup z = some .local) (ha : MN X c W a f) (hb : MN X c W b g) (hd : MN X c W d h)
    (hw : swappedStores [.Tuple [.Name x px, .Name y py, .Name z pz] kt pt] (.Tuple [a, b, d] k2 pt2) X.env = pure (some [x, y, z]))
    (hs : swapsWithSole [.Tuple [.Name x px, .Name y py, .Name z pz] kt pt] (.Tuple [a, b, d] k2 pt2) pos.line X.env = pure false := by rfl) (s1 : starEach [a, b, d] X.env = (false, eval a X.env) :: starEach [b, d] X.env := by rfl) (s2 : starEach [b, d] X.env = (false, eval b X.env) :: starEach [d] X.env := by rfl) (s3 : starEach [d] X.env = (false, eval d X.env) :: starEach [] X.env := by rfl) :
    MS X c W (.Assign [.Tuple [.Name x px, .Name y py, .Name z pz] kt pt] (.Tuple [a, b, d] k2 pt2) pos) (sPar3 i j l f g h) :=
  PS.imp (ps_par3 hc hN hi hj hl hij hil hjl hx hy hz (pa_cons ha (pa_cons hb (pa_cons hd pa_nil s3) s2) s1) hw hs) fun De σ H ⟨G, ρ, ok, p⟩ => stepSN ok p fun s G1 H1 v _ g1 r1 ok1 p1 => stepSN ok1 p1 fun t G2 H2 w _ g2 r2 ok2 p2 => stepSN ok2 p2 fun u G3 H3 w3 _ g3 r3 ok3 p3 =>
    ⟨v, w, w3, rfl, p3 G3 H3 _ (Same.refl G3) (((ok.new g1 i r1).new g2 j r2).new g3 l r3)⟩
/-! ### x = e, e a target of several names -/
def sUnp (b : D → Rho → Option Rho) (f : Rho → R D) : Rho → Out := fun ρ => (f ρ).out ρ fun d => match b d ρ with
  | some ρ' => .nx ρ'
  | none => .bad
theorem ms_unp {tg e : Expr} {f : Rho → R D} {g : TG} {b : D → Rho → Option Rho} {vs : List Nat} {pos : Pos} (he : ME X c W e f) (hg : PG X tg g) (tk : TgOk X c vs g b) (hs : swapsWithSole [tg] e pos.line X.env = pure false := by rfl) (hw : swappedStores [tg] e X.env = pure none := by rfl)
    (h1 : (assignEach [tg] X.env).map (·.2) = [assign tg X.env] := by rfl) : MS X c W (.Assign [tg] e pos) (sUnp b f) :=
  PS.imp (ps_asg he hg hs hw h1) fun De σ H ⟨G, ρ, ok, p⟩ => stepS ok p fun d G1 H1 v _ g1 r1 ok1 p1 => by
    cases eb : b d ρ with
    | none => rw [eb] at p1; exact p1.elim
    | some ρ' =>
      rw [eb] at p1
      exact tk G1 H1 σ ρ v d ρ' _ ok1 r1 eb fun σ' ok' _ => p1 G1 H1 σ' (Same.refl G1) ok'
/-! ### chains -/
def chE (o o' : D → D → Option Bool) (f g h : Rho → R D) : Rho → R Bool := fun ρ => (f ρ).bind fun x => (g ρ).bind fun y => (R.of (o x y)).bind fun b => if b then (h ρ).bind fun z => R.of (o' y z) else .ok false
theorem mt_chain {op op' : CmpOp} {r r' : R2} {o o' : D → D → Option Bool} {a b d : Expr} {f g h : Rho → R D} {pos : Pos} (ho : OpR X (compareOp op) r) (ho' : OpR X (compareOp op') r') (hr : CmD X c.ns r o) (hr' : CmD X c.ns r' o') (ha : MB X c W a f) (hb : MB X c W b g) (hd : MB X c W d h)
    (hm : lastMarks [op, op'] [b, d] = false := by with_unfolding_all rfl) : MT X c W (.Compare a [op, op'] [b, d] pos) (chE o o' f g h) :=
  PT.imp (pt_chain ho ho' ha hb hd hm) fun σ H Qk ⟨G, ρ, ok, p⟩ => step ok p fun x G1 H1 v _ g1 r1 ok1 p1 => step ok1 p1 fun y G2 H2 w _ g2 r2 ok2 p2 => by
    cases e : o x y with
    | none => rw [e] at p2; exact p2.elim
    | some k =>
      rw [e] at p2
      refine hr G2 H2 v w x y k _ e ok2.s (r1.gr g2) r2 fun G3 H3 g3 => ⟨k, rfl, ?_⟩
      have p3 := p2.gr g3
      cases k with
      | false => exact ⟨false, rfl, p3 G3 H3 false (Gr.refl g3.s) rfl⟩
      | true =>
        refine step (ok2.gr g3) p3 fun z G4 H4 u _ g4 r4 ok4 p4 => ?_
        cases e' : o' y z with
        | none => rw [e'] at p4; exact p4.elim
        | some k' =>
          rw [e'] at p4
          exact hr' G4 H4 w u y z k' _ e' ok4.s ((r2.gr g3).gr g4) r4 fun G5 H5 g5 => ⟨k', rfl, p4 G5 H5 k' g5 rfl⟩
theorem me_chain {op op' : CmpOp} {r r' : R2} {o o' : D → D → Option Bool} {a b d : Expr} {f g h : Rho → R D} {pos : Pos} (ho : OpR X (compareOp op) r) (ho' : OpR X (compareOp op') r') (hr : CmD X c.ns r o) (hr' : CmD X c.ns r' o') (ha : MB X c W a f) (hb : MB X c W b g) (hd : MB X c W d h)
    (hm : lastMarks [op, op'] [b, d] = false := by with_unfolding_all rfl) : ME X c W (.Compare a [op, op'] [b, d] pos) (bv (chE o o' f g h)) :=
  PE.imp (pe_chain ho ho' ha hb hd hm) fun σ H Qk ⟨G, ρ, ok, p⟩ => by
    have e0 : bv (chE o o' f g h) ρ = (f ρ).bind fun x => (g ρ).bind fun y => (R.of (o x y)).bind fun b => if b then (h ρ).bind fun z => (R.of (o' y z)).bind fun b => .ok (.bool b) else .ok (.bool false) := by
      unfold bv chE
      cases f ρ with
      | ok x =>
        cases g ρ with
        | ok y =>
          show ((R.of (o x y)).bind _).bind _ = (R.of (o x y)).bind _
          cases o x y with
          | none => rfl
          | some k =>
            cases k with
            | false => rfl
            | true =>
              show ((h ρ).bind _).bind _ = (h ρ).bind _
              cases h ρ <;> rfl
        | _ => rfl
      | _ => rfl
    rw [e0] at p
    refine step ok p fun x G1 H1 v _ g1 r1 ok1 p1 => step ok1 p1 fun y G2 H2 w _ g2 r2 ok2 p2 => ?_
    cases e : o x y with
    | none => rw [e] at p2; exact p2.elim
    | some k =>
      rw [e] at p2
      refine hr G2 H2 v w x y k _ e ok2.s (r1.gr g2) r2 fun G3 H3 g3 => ⟨k, rfl, ?_⟩
      have p3 := p2.gr g3
      cases k with
      | false => exact p3 G3 H3 _ (Gr.refl g3.s) (.bl false)
      | true =>
        refine step (ok2.gr g3) p3 fun z G4 H4 u _ g4 r4 ok4 p4 => ?_
        cases e' : o' y z with
        | none => rw [e'] at p4; exact p4.elim
        | some k' =>
          rw [e'] at p4
          exact hr' G4 H4 w u y z k' _ e' ok4.s ((r2.gr g3).gr g4) r4 fun G5 H5 g5 => p4 G5 H5 _ g5 (.bl k')

/-! ### what a new object is -/
theorem newL {K : PySem.W.Frag} {ns : Sc} {G H : Hp} {us : List V} {ds : List D} {d : D} (s : Sub G H) (q : QA K ns G us ds) (e : d = .list ds) {Qk : VK} (k : ∀ G' H' u, Gr G H G' H' → Q K ns G' u d → Qk u H') : ∀ p, H p = none → Qk (.ref p) (upd H p (.lst us)) := fun p hp => by
  subst e
  exact k _ _ _ (Gr.new s hp nt_lst) (.lst upd_same (QA.mono (new_same (s.free hp)) _ _ q))
theorem newT {K : PySem.W.Frag} {ns : Sc} {G H : Hp} {us : List V} {ds : List D} {d : D} (s : Sub G H) (q : QA K ns G us ds) (e : d = .tuple ds) {Qk : VK} (k : ∀ G' H' u, Gr G H G' H' → Q K ns G' u d → Qk u H') : ∀ p, H p = none → Qk (.ref p) (upd H p (.tup us)) := fun p hp => by
  subst e
  exact k _ _ _ (Gr.new s hp nt_tup) (.tup (.inl (.inl upd_same)) (QA.mono (new_same (s.free hp)) _ _ q))
/-! ### + -/
def addD : D → D → Option D
  | .int i, .int j => some (.int (i + j))
  | .str x, .str y => if x.length + y.length ≤ 1000000 then some (.str (x ++ y)) else none
  | .list xs, .list ys => if xs.length + ys.length ≤ 1000000 then some (.list (xs ++ ys)) else none
  | .tuple xs, .tuple ys => if xs.length + ys.length ≤ 1000000 then some (.tuple (xs ++ ys)) else none
  | _, _ => none
theorem opr_add : OpR X (binaryOp .Add) (fun x y H Q => rI0 (fun i j => .int (i + j)) x y H Q ∨ (∃ i j, x = .str i ∧ y = .str j ∧ i.length + j.length ≤ sizeLine ∧ Q (.str (i ++ j)) H) ∨ rCat x y H Q ∨ rCatA X.K x y H Q) := op_add.or (op_add_str.or (op_cat.or op_catA))
theorem opd_add : OpD X c.ns (fun x y H Q => rI0 (fun i j => .int (i + j)) x y H Q ∨ (∃ i j, x = .str i ∧ y = .str j ∧ i.length + j.length ≤ sizeLine ∧ Q (.str (i ++ j)) H) ∨ rCat x y H Q ∨ rCatA X.K x y H Q) addD := fun G H v w x y d Qk e s b1 b2 k => by
  unfold addD at e
  split at e
  · cases e
    obtain rfl := b1.int
    obtain rfl := b2.int
    exact .inl ⟨_, _, rfl, rfl, k G H _ (Gr.refl s) (.int _)⟩
  · split at e
    · rename_i hl
      cases e
      obtain rfl := b1.str
      obtain rfl := b2.str
      exact .inr (.inl ⟨_, _, rfl, rfl, sz hl, k G H _ (Gr.refl s) (.str _)⟩)
    · cases e
  · split at e
    · rename_i hl
      cases e
      obtain ⟨a, us, rfl, h1, q1⟩ := b1.list s
      obtain ⟨b, ws, rfl, h2, q2⟩ := b2.list s
      exact .inr (.inr (.inl ⟨a, b, us, ws, rfl, rfl, h1, h2, by rw [q1.length, q2.length]; exact sz hl, newL s (q1.append q2) rfl k⟩))
    · cases e
  · split at e
    · rename_i hl
      cases e
      obtain ⟨a, us, rfl, h1, q1, g1⟩ := b1.tuple s
      obtain ⟨b, ws, rfl, h2, q2, g2⟩ := b2.tuple s
      refine .inr (.inr (.inr ⟨a, b, us, ws, rfl, rfl, h1, h2, by rw [q1.length, q2.length]; exact sz hl, fun z => ?_, fun z1 z2 => ?_, fun z1 z2 => newT s (q1.append q2) rfl k⟩))
      · subst z
        cases q1
        exact k G H _ (Gr.refl s) (.tup g2 q2)
      · subst z2
        cases q2
        rw [List.append_nil] at k
        exact k G H _ (Gr.refl s) (.tup g1 q1)
    · cases e
  · cases e
/-! ### - * // % -/
def subD : D → D → Option D
  | .int i, .int j => some (.int (i - j))
  | _, _ => none
theorem opd_sub : OpD X c.ns (rI0 fun i j => .int (i - j)) subD := fun G H v w x y d Qk e s b1 b2 k => by
  unfold subD at e
  split at e
  · cases e
    obtain rfl := b1.int
    obtain rfl := b2.int
    exact ⟨_, _, rfl, rfl, k G H _ (Gr.refl s) (.int _)⟩
  · cases e
def rep {α : Type} (n : Nat) (xs : List α) : List α := (List.replicate n xs).flatten
theorem QA.rep {K : PySem.W.Frag} {ns : Sc} {G : Hp} {us : List V} {ds : List D} (q : QA K ns G us ds) : ∀ n : Nat, QA K ns G (List.replicate n us).flatten (M.rep n ds)
  | 0 => .nil
  | n + 1 => by
    unfold M.rep
    rw [List.replicate_succ, List.flatten_cons, List.replicate_succ, List.flatten_cons]
    exact q.append (QA.rep q n)
def mulD : D → D → Option D
  | .int i, .int j => if (-18446744073709551616 < i ∧ i < 18446744073709551616) ∨ (-18446744073709551616 < j ∧ j < 18446744073709551616) then some (.int (i * j)) else none
  | .list xs, .int k => if k ≤ 1000000 ∧ -1000000 ≤ k ∧ xs.length * k.toNat ≤ 1000000 then some (.list (rep k.toNat xs)) else none
  | .tuple xs, .int k => if xs ≠ [] ∧ 2 ≤ k ∧ k ≤ 1000 ∧ xs.length ≤ 1000 then some (.tuple (rep k.toNat xs)) else none
  | _, _ => none
theorem opr_mul : OpR X (binaryOp .Mult) (fun x y H Q => rI CMul (fun i j => .int (i * j)) x y H Q ∨ rRep x y H Q ∨ rRepT X.K x y H Q) := op_mul.or (op_rep.or op_repT)
theorem opd_mul : OpD X c.ns (fun x y H Q => rI CMul (fun i j => .int (i * j)) x y H Q ∨ rRep x y H Q ∨ rRepT X.K x y H Q) mulD := fun G H v w x y d Qk e s b1 b2 k => by
  unfold mulD at e
  split at e
  · split at e
    · rename_i hc
      cases e
      obtain rfl := b1.int
      obtain rfl := b2.int
      exact .inl ⟨_, _, rfl, rfl, hc, k G H _ (Gr.refl s) (.int _)⟩
    · cases e
  · split at e
    · rename_i hc
      cases e
      obtain ⟨a, us, rfl, h1, q1⟩ := b1.list s
      obtain rfl := b2.int
      exact .inr (.inl ⟨a, _, us, rfl, rfl, h1, by omega, by omega, by rw [q1.length]; exact sz hc.2.2, newL s (q1.rep _) rfl k⟩)
    · cases e
  · split at e
    · rename_i hc
      cases e
      obtain ⟨a, us, rfl, h1, q1, g1⟩ := b1.tuple s
      obtain rfl := b2.int
      exact .inr (.inr ⟨a, _, us, rfl, rfl, h1, fun z => hc.1 (by subst z; cases q1; rfl), hc.2.1, hc.2.2.1, by rw [q1.length]; exact hc.2.2.2, newT s (q1.rep _) rfl k⟩)
    · cases e
  · cases e
def fdivD : D → D → Option D
  | .int i, .int j => if 0 < j ∧ j < 1073741824 then some (.int (i / j)) else none
  | _, _ => none
theorem opd_fdiv : OpD X c.ns (rI CDiv fun i j => .int (i / j)) fdivD := fun G H v w x y d Qk e s b1 b2 k => by
  unfold fdivD at e
  split at e
  · split at e
    · rename_i hc
      cases e
      obtain rfl := b1.int
      obtain rfl := b2.int
      exact ⟨_, _, rfl, rfl, hc, k G H _ (Gr.refl s) (.int _)⟩
    · cases e
  · cases e
def modD : D → D → Option D
  | .int i, .int j => if 0 < j then some (.int (i % j)) else none
  | _, _ => none
theorem opd_mod : OpD X c.ns (rI (fun _ j => 0 < j) fun i j => .int (i % j)) modD := fun G H v w x y d Qk e s b1 b2 k => by
  unfold modD at e
  split at e
  · split at e
    · rename_i hc
      cases e
      obtain rfl := b1.int
      obtain rfl := b2.int
      exact ⟨_, _, rfl, rfl, hc, k G H _ (Gr.refl s) (.int _)⟩
    · cases e
  · cases e
def negD : D → Option D
  | .int i => some (.int (-i))
  | _ => none
theorem me_neg {a : Expr} {f : Rho → R D} {pos : Pos} (ha : MB X c W a f) : ME X c W (.UnaryOp .USub a pos) (e1 negD f) :=
  PE.imp (pe_un un_neg ha) fun σ H Qk ⟨G, ρ, ok, p⟩ => step ok p fun x G1 H1 v _ g1 r1 ok1 p1 => by
    cases x with
    | int i =>
      obtain rfl := r1.int
      exact ⟨i, rfl, p1 G1 H1 _ (Gr.refl ok1.s) (.int _)⟩
    | _ => exact p1.elim
/-! ### < <= > >= -/
def ltD : D → D → Option Bool
  | .int i, .int j => some (decide (i < j))
  | _, _ => none
def leD : D → D → Option Bool
  | .int i, .int j => some (decide (i ≤ j))
  | _, _ => none
def gtD : D → D → Option Bool
  | .int i, .int j => some (decide (j < i))
  | _, _ => none
def geD : D → D → Option Bool
  | .int i, .int j => some (decide (j ≤ i))
  | _, _ => none
theorem cmd_lt : CmD X c.ns (rI0 fun i j => .bl (decide (i < j))) ltD := fun G H v w x y d Qk e s b1 b2 k => by
  unfold ltD at e
  split at e
  · cases e
    obtain rfl := b1.int
    obtain rfl := b2.int
    exact ⟨_, _, rfl, rfl, k G H (Gr.refl s)⟩
  · cases e
theorem cmd_le : CmD X c.ns (rI0 fun i j => .bl (decide (i ≤ j))) leD := fun G H v w x y d Qk e s b1 b2 k => by
  unfold leD at e
  split at e
  · cases e
    obtain rfl := b1.int
    obtain rfl := b2.int
    exact ⟨_, _, rfl, rfl, k G H (Gr.refl s)⟩
  · cases e
theorem cmd_gt : CmD X c.ns (rI0 fun i j => .bl (decide (j < i))) gtD := fun G H v w x y d Qk e s b1 b2 k => by
  unfold gtD at e
  split at e
  · cases e
    obtain rfl := b1.int
    obtain rfl := b2.int
    exact ⟨_, _, rfl, rfl, k G H (Gr.refl s)⟩
  · cases e
theorem cmd_ge : CmD X c.ns (rI0 fun i j => .bl (decide (j ≤ i))) geD := fun G H v w x y d Qk e s b1 b2 k => by
  unfold geD at e
  split at e
  · cases e
    obtain rfl := b1.int
    obtain rfl := b2.int
    exact ⟨_, _, rfl, rfl, k G H (Gr.refl s)⟩
  · cases e
/-! ### == != -/
mutual
theorem Q.dp {K : PySem.W.Frag} {ns : Sc} {G H : Hp} (s : Same G H) : ∀ (d : D) (v : V), d.canLay0 = true → Q K ns G v d → Dp K H v d
  | .none, _, _, h => by cases h; exact .non
  | .bool _, _, _, h => by cases h; exact .bl _
  | .int _, _, _, h => by cases h; exact .int _
  | .str _, _, _, h => by cases h; exact .str _
  | .list ds, _, l, h => by cases h with | lst h1 h2 => exact .lst (SqL.of (s _ _ h1)) (QA.dp s ds _ (by simpa [PyData.canLay0] using l) h2)
  | .tuple ds, _, l, h => by cases h with | tup h1 h2 => exact .tup (SqT.same s h1) (QA.dp s ds _ (by simpa [PyData.canLay0] using l) h2)
  | .dict _, _, l, h => by simp [PyData.canLay0] at l
theorem QA.dp {K : PySem.W.Frag} {ns : Sc} {G H : Hp} (s : Same G H) : ∀ (ds : List D) (vs : List V), PyData.canLayAll0 ds = true → QA K ns G vs ds → DpAll K H vs ds
  | [], _, _, h => by cases h; exact .nil
  | d :: ds, _, l, h => by
    cases h with
    | cons h1 h2 =>
      have l' : d.canLay0 = true ∧ PyData.canLayAll0 ds = true := by simpa [PyData.canLayAll0] using l
      exact .cons (Q.dp s d _ l'.1 h1) (QA.dp s ds _ l'.2 h2)
end
theorem B.dp {K : PySem.W.Frag} {ns : Sc} {G H : Hp} {v : V} {d : D} (b : B K ns G H v d) (s : Sub G H) (l : SeqAt.shaped d = true) : Dp K H v d := by
  have l' := SeqAt.canLay_of_shaped l
  rcases b with q | ⟨a, us, ds, rfl, rfl, h, q⟩
  · exact Q.dp s.same d v l' q
  · exact .lst (SqL.of h) (QA.dp s.same ds us (by simpa [PyData.canLay0] using l') q)
def eqD (x y : D) : Option Bool := if (SeqAt.shaped x && SeqAt.shaped y) = true then some (PyData.eqv x y) else none
def neD (x y : D) : Option Bool := if (SeqAt.shaped x && SeqAt.shaped y) = true then some (!PyData.eqv x y) else none
theorem cmd_eq : CmD X c.ns (rEqD X.K) eqD := fun G H v w x y d Qk e s b1 b2 k => by
  unfold eqD at e
  split at e
  · rename_i h
    cases e
    have h' := Bool.and_eq_true_iff.mp h
    exact ⟨x, y, b1.dp s h'.1, b2.dp s h'.2, h'.1, h'.2, k G H (Gr.refl s)⟩
  · cases e
theorem cmd_ne : CmD X c.ns (rNeD X.K) neD := fun G H v w x y d Qk e s b1 b2 k => by
  unfold neD at e
  split at e
  · rename_i h
    cases e
    have h' := Bool.and_eq_true_iff.mp h
    exact ⟨x, y, b1.dp s h'.1, b2.dp s h'.2, h'.1, h'.2, k G H (Gr.refl s)⟩
  · cases e
/-! ### is -/
def isNone : D → Bool
  | .none => true
  | _ => false
def isD : D → D → Option Bool
  | x, .none => some (isNone x)
  | .bool a, .bool b => some (decide (a = b))
  | _, _ => none
def isntD : D → D → Option Bool
  | x, .none => some (!isNone x)
  | .bool a, .bool b => some (!decide (a = b))
  | _, _ => none
theorem none_of {K : PySem.W.Frag} {ns : Sc} {G H : Hp} {v : V} {d : D} (b : B K ns G H v d) : decide (v = .non) = isNone d := by
  rcases b with q | ⟨a, us, ds, rfl, rfl, h, q⟩
  · cases q <;> rfl
  · rfl
theorem opr_is : OpR X (compareOp .Is) (fun x y H Q => (y = .non ∧ Q (.bl (decide (x = .non))) H) ∨ rIsB x y H Q) := op_isN.or op_isBl
theorem opr_isnt : OpR X (compareOp .IsNot) (fun x y H Q => (y = .non ∧ Q (.bl (!decide (x = .non))) H) ∨ rNotB x y H Q) := op_notN.or op_notBl
theorem cmd_is : CmD X c.ns (fun x y H Q => (y = .non ∧ Q (.bl (decide (x = .non))) H) ∨ rIsB x y H Q) isD := fun G H v w x y d Qk e s b1 b2 k => by
  unfold isD at e
  split at e
  · cases e
    refine .inl ⟨b2.none, ?_⟩
    rw [none_of b1]
    exact k G H (Gr.refl s)
  · cases e
    obtain rfl := b1.bool
    obtain rfl := b2.bool
    exact .inr ⟨_, _, rfl, rfl, k G H (Gr.refl s)⟩
  · cases e
theorem cmd_isnt : CmD X c.ns (fun x y H Q => (y = .non ∧ Q (.bl (!decide (x = .non))) H) ∨ rNotB x y H Q) isntD := fun G H v w x y d Qk e s b1 b2 k => by
  unfold isntD at e
  split at e
  · cases e
    refine .inl ⟨b2.none, ?_⟩
    rw [none_of b1]
    exact k G H (Gr.refl s)
  · cases e
    obtain rfl := b1.bool
    obtain rfl := b2.bool
    exact .inr ⟨_, _, rfl, rfl, k G H (Gr.refl s)⟩
  · cases e
/-! ### x[i] -/
def ixD : D → D → Option D
  | .list xs, .int i => atI xs i
  | .tuple xs, .int i => atI xs i
  | .str z, .int i => if z.length ≤ 1000000 then (atI z.cps.toList i).map fun n => .str ⟨#[n]⟩ else none
  | _, _ => none
theorem QA.atI {K : PySem.W.Frag} {ns : Sc} {G : Hp} {us : List V} {ds : List D} {i : Int} {d : D} (q : QA K ns G us ds) (e : L2.atI ds i = some d) : ∃ v, L2.atI us i = some v ∧ Q K ns G v d := by
  unfold L2.atI at e ⊢
  rw [q.length]
  cases h : ixN ds.length i with
  | none => rw [h] at e; cases e
  | some j =>
    rw [h] at e
    exact q.get e
theorem opd_ix : OpD X c.ns (rIx X.K) ixD := fun G H v w x y d Qk e s b1 b2 k => by
  unfold ixD at e
  split at e
  · obtain ⟨a, us, rfl, h1, q1⟩ := b1.list s
    obtain rfl := b2.int
    obtain ⟨u, hu, qu⟩ := q1.atI e
    exact .inl ⟨a, us, _, u, rfl, rfl, SqL.of h1, hu, k G H u (Gr.refl s) qu⟩
  · obtain ⟨a, us, rfl, h1, q1, g1⟩ := b1.tuple s
    obtain rfl := b2.int
    obtain ⟨u, hu, qu⟩ := q1.atI e
    exact .inr (.inl ⟨a, us, _, u, rfl, rfl, h1, hu, k G H u (Gr.refl s) qu⟩)
  · split at e
    · rename_i hl
      obtain rfl := b1.str
      obtain rfl := b2.int
      rename_i z i
      cases h : L2.atI z.cps.toList i with
      | none => rw [h] at e; cases e
      | some n =>
        rw [h] at e
        cases e
        exact .inr (.inr ⟨_, _, n, rfl, rfl, sz hl, h, k G H _ (Gr.refl s) (.str _)⟩)
    · cases e
  · cases e
end
end M

namespace M
open PySem PySem.Spec PyProof.Rows L2
theorem BA.nil_inv {K : PySem.W.Frag} {ns : Sc} {G H : Hp} {vs : List V} (h : BA K ns G H vs []) : vs = [] := by cases h; rfl
theorem BA.cons_inv {K : PySem.W.Frag} {ns : Sc} {G H : Hp} {vs : List V} {d : D} {ds : List D} (h : BA K ns G H vs (d :: ds)) : ∃ v ws, vs = v :: ws ∧ B K ns G H v d ∧ BA K ns G H ws ds := by
  cases h with
  | cons h1 h2 => exact ⟨_, _, rfl, h1, h2⟩

section
variable {X : Cx} {c : Cm} {W : WM}
/-! ### len -/
def lenD : List D → Option D
  | [.list xs] => some (.int xs.length)
  | [.tuple xs] => some (.int xs.length)
  | [.str z] => if z.length ≤ 1000000 then some (.int z.length) else none
  | _ => none
theorem cad_len : CaD X c.ns (fun xs H Q => ∃ x n, xs = [x] ∧ LenV X.K x H n ∧ Q (.int n) H) lenD := fun G H vs ds d Qk e s b k => by
  unfold lenD at e
  split at e
  · cases e
    obtain ⟨v, ws, rfl, b1, b2⟩ := b.cons_inv
    obtain rfl := b2.nil_inv
    obtain ⟨a, us, rfl, h1, q1⟩ := b1.list s
    exact ⟨_, us.length, rfl, .inl ⟨us, SqL.of h1, rfl⟩, by rw [q1.length]; exact k G H _ (Gr.refl s) (.int _)⟩
  · cases e
    obtain ⟨v, ws, rfl, b1, b2⟩ := b.cons_inv
    obtain rfl := b2.nil_inv
    obtain ⟨a, us, rfl, h1, q1, _⟩ := b1.tuple s
    exact ⟨_, us.length, rfl, .inr ⟨us, h1, rfl⟩, by rw [q1.length]; exact k G H _ (Gr.refl s) (.int _)⟩
  · split at e
    · rename_i hl
      cases e
      obtain ⟨v, ws, rfl, b1, b2⟩ := b.cons_inv
      obtain rfl := b2.nil_inv
      obtain rfl := b1.str
      exact ⟨_, _, rfl, ⟨sz hl, rfl⟩, k G H _ (Gr.refl s) (.int _)⟩
    · cases e
  · cases e
/-! ### abs, min, max, int, sum, all, any -/
def absD : List D → Option D
  | [.int i] => some (.int (if i < 0 then -i else i))
  | _ => none
theorem cad_abs : CaD X c.ns (fun xs H Q => ∃ i, xs = [.int i] ∧ Q (.int (if i < 0 then -i else i)) H) absD := fun G H vs ds d Qk e s b k => by
  unfold absD at e
  split at e
  · cases e
    obtain ⟨v, ws, rfl, b1, b2⟩ := b.cons_inv
    obtain rfl := b2.nil_inv
    obtain rfl := b1.int
    exact ⟨_, rfl, k G H _ (Gr.refl s) (.int _)⟩
  · cases e
/-- the intsOf of a list -/
def intsOf : List D → Option (List Int)
  | [] => some []
  | .int i :: r => (intsOf r).map (i :: ·)
  | _ :: _ => none
theorem ints_eq : ∀ {ds : List D} {is : List Int}, intsOf ds = some is → ds = is.map .int
  | [], _, h => by cases h; rfl
  | .int i :: r, is, h => by
    unfold intsOf at h
    cases e : intsOf r with
    | none => rw [e] at h; cases h
    | some js =>
      rw [e] at h
      cases h
      rw [ints_eq e]
      rfl
  | .none :: _, _, h => by cases h
  | .bool _ :: _, _, h => by cases h
  | .str _ :: _, _, h => by cases h
  | .list _ :: _, _, h => by cases h
  | .tuple _ :: _, _, h => by cases h
  | .dict _ :: _, _, h => by cases h
theorem ints_map (is : List Int) : intsOf (is.map .int) = some is := by
  induction is with
  | nil => rfl
  | cons i is ih => show (intsOf (is.map .int)).map (i :: ·) = _; rw [ih]; rfl
theorem QA.ints_inv {K : PySem.W.Frag} {ns : Sc} {G : Hp} : ∀ {is : List Int} {us : List V}, QA K ns G us (is.map .int) → us = is.map V.int
  | [], _, h => by cases h; rfl
  | i :: is, _, h => by
    cases h with
    | cons h1 h2 =>
      cases h1
      rw [QA.ints_inv h2]
      rfl
def boolsOf : List D → Option (List Bool)
  | [] => some []
  | .bool i :: r => (boolsOf r).map (i :: ·)
  | _ :: _ => none
theorem bools_eq : ∀ {ds : List D} {is : List Bool}, boolsOf ds = some is → ds = is.map .bool
  | [], _, h => by cases h; rfl
  | .bool i :: r, is, h => by
    unfold boolsOf at h
    cases e : boolsOf r with
    | none => rw [e] at h; cases h
    | some js =>
      rw [e] at h
      cases h
      rw [bools_eq e]
      rfl
  | .none :: _, _, h => by cases h
  | .int _ :: _, _, h => by cases h
  | .str _ :: _, _, h => by cases h
  | .list _ :: _, _, h => by cases h
  | .tuple _ :: _, _, h => by cases h
  | .dict _ :: _, _, h => by cases h
theorem bools_map (is : List Bool) : boolsOf (is.map .bool) = some is := by
  induction is with
  | nil => rfl
  | cons i is ih => show (boolsOf (is.map .bool)).map (i :: ·) = _; rw [ih]; rfl
theorem QA.bools_inv {K : PySem.W.Frag} {ns : Sc} {G : Hp} : ∀ {is : List Bool} {us : List V}, QA K ns G us (is.map .bool) → us = is.map V.bl
  | [], _, h => by cases h; rfl
  | i :: is, _, h => by
    cases h with
    | cons h1 h2 =>
      cases h1
      rw [QA.bools_inv h2]
      rfl
def allD : List D → Option D
  | [.list xs] => (boolsOf xs).map fun bs => .bool (bs.all id)
  | _ => none
def anyD : List D → Option D
  | [.list xs] => (boolsOf xs).map fun bs => .bool (bs.any id)
  | _ => none
theorem cad_all : CaD X c.ns (rAll X.K) allD := fun G H vs ds d Qk e s b k => by
  unfold allD at e
  split at e
  · rename_i xs
    cases eb : boolsOf xs with
    | none => rw [eb] at e; cases e
    | some bs =>
      rw [eb] at e
      cases e
      obtain rfl := bools_eq eb
      obtain ⟨v, ws, rfl, b1, b2⟩ := b.cons_inv
      obtain rfl := b2.nil_inv
      obtain ⟨a, us, rfl, h1, q1⟩ := b1.list s
      obtain rfl := q1.bools_inv
      exact ⟨a, bs, rfl, SqL.of h1, k G H _ (Gr.refl s) (.bl _)⟩
  · cases e
theorem cad_any : CaD X c.ns (rAny X.K) anyD := fun G H vs ds d Qk e s b k => by
  unfold anyD at e
  split at e
  · rename_i xs
    cases eb : boolsOf xs with
    | none => rw [eb] at e; cases e
    | some bs =>
      rw [eb] at e
      cases e
      obtain rfl := bools_eq eb
      obtain ⟨v, ws, rfl, b1, b2⟩ := b.cons_inv
      obtain rfl := b2.nil_inv
      obtain ⟨a, us, rfl, h1, q1⟩ := b1.list s
      obtain rfl := q1.bools_inv
      exact ⟨a, bs, rfl, SqL.of h1, k G H _ (Gr.refl s) (.bl _)⟩
  · cases e
def sumD : List D → Option D
  | [.list xs] => (intsOf xs).map fun bs => .int bs.sum
  | _ => none
theorem cad_sum : CaD X c.ns (rSum X.K) sumD := fun G H vs ds d Qk e s b k => by
  unfold sumD at e
  split at e
  · rename_i xs
    cases eb : intsOf xs with
    | none => rw [eb] at e; cases e
    | some bs =>
      rw [eb] at e
      cases e
      obtain rfl := ints_eq eb
      obtain ⟨v, ws, rfl, b1, b2⟩ := b.cons_inv
      obtain rfl := b2.nil_inv
      obtain ⟨a, us, rfl, h1, q1⟩ := b1.list s
      obtain rfl := q1.ints_inv
      exact ⟨a, bs, rfl, SqL.of h1, k G H _ (Gr.refl s) (.int _)⟩
  · cases e
def maxL : List Int → Int
  | [] => 0
  | [x] => x
  | x :: r => max x (maxL r)
def minL : List Int → Int
  | [] => 0
  | [x] => x
  | x :: r => min x (minL r)
theorem maxL_cons (x y : Int) (r : List Int) : maxL (x :: y :: r) = max x (maxL (y :: r)) := rfl
theorem minL_cons (x y : Int) (r : List Int) : minL (x :: y :: r) = min x (minL (y :: r)) := rfl
theorem maxL_mem : ∀ {l : List Int}, l ≠ [] → maxL l ∈ l ∧ ∀ y ∈ l, y ≤ maxL l
  | [], h => absurd rfl h
  | [x], _ => ⟨by simp [maxL], fun y hy => by simp at hy; subst hy; simp [maxL]⟩
  | x :: y :: r, _ => by
    obtain ⟨h1, h2⟩ := maxL_mem (l := y :: r) (by simp)
    rw [maxL_cons]
    refine ⟨?_, fun z hz => ?_⟩
    · by_cases hx : x ≤ maxL (y :: r)
      · rw [Int.max_eq_right hx]; exact List.mem_cons_of_mem _ h1
      · rw [Int.max_eq_left (by omega)]; simp
    · rcases List.mem_cons.mp hz with rfl | hz
      · exact Int.le_max_left _ _
      · exact Int.le_trans (h2 z hz) (Int.le_max_right _ _)
theorem minL_mem : ∀ {l : List Int}, l ≠ [] → minL l ∈ l ∧ ∀ y ∈ l, minL l ≤ y
  | [], h => absurd rfl h
  | [x], _ => ⟨by simp [minL], fun y hy => by simp at hy; subst hy; simp [minL]⟩
  | x :: y :: r, _ => by
    obtain ⟨h1, h2⟩ := minL_mem (l := y :: r) (by simp)
    rw [minL_cons]
    refine ⟨?_, fun z hz => ?_⟩
    · by_cases hx : x ≤ minL (y :: r)
      · rw [Int.min_eq_left hx]; simp
      · rw [Int.min_eq_right (by omega)]; exact List.mem_cons_of_mem _ h1
    · rcases List.mem_cons.mp hz with rfl | hz
      · exact Int.min_le_left _ _
      · exact Int.le_trans (Int.min_le_right _ _) (h2 z hz)
def maxD : List D → Option D
  | [.int i, .int j] => some (.int (if j > i then j else i))
  | [.list xs] => match intsOf xs with
    | some (i :: is) => some (.int (maxL (i :: is)))
    | _ => none
  | _ => none
def minD : List D → Option D
  | [.int i, .int j] => some (.int (if j < i then j else i))
  | [.list xs] => match intsOf xs with
    | some (i :: is) => some (.int (minL (i :: is)))
    | _ => none
  | _ => none
theorem car_max (hc : X.calm = true) : CallR X (.builtin "max") (fun xs H Q => (∃ i j, xs = [.int i, .int j] ∧ Q (.int (if j > i then j else i)) H) ∨ rMax X.K xs H Q) := (call_max2 hc).or (cr_max hc)
theorem car_min (hc : X.calm = true) : CallR X (.builtin "min") (fun xs H Q => (∃ i j, xs = [.int i, .int j] ∧ Q (.int (if j < i then j else i)) H) ∨ rMin X.K xs H Q) := (call_min2 hc).or (cr_min hc)
theorem cad_max : CaD X c.ns (fun xs H Q => (∃ i j, xs = [.int i, .int j] ∧ Q (.int (if j > i then j else i)) H) ∨ rMax X.K xs H Q) maxD := fun G H vs ds d Qk e s b k => by
  unfold maxD at e
  split at e
  · cases e
    obtain ⟨v, ws, rfl, b1, b2⟩ := b.cons_inv
    obtain ⟨v2, ws2, rfl, b3, b4⟩ := b2.cons_inv
    obtain rfl := b4.nil_inv
    obtain rfl := b1.int
    obtain rfl := b3.int
    exact .inl ⟨_, _, rfl, k G H _ (Gr.refl s) (.int _)⟩
  · split at e
    · rename_i xs i is eb
      cases e
      obtain rfl := ints_eq eb
      obtain ⟨v, ws, rfl, b1, b2⟩ := b.cons_inv
      obtain rfl := b2.nil_inv
      obtain ⟨a, us, rfl, h1, q1⟩ := b1.list s
      obtain rfl := q1.ints_inv
      refine .inr ⟨a, i :: is, rfl, SqL.of h1, by simp, fun m hm hle => ?_⟩
      obtain ⟨z1, z2⟩ := maxL_mem (l := i :: is) (by simp)
      have : m = maxL (i :: is) := by
        have := hle _ z1
        have := z2 _ hm
        omega
      rw [this]
      exact k G H _ (Gr.refl s) (.int _)
    · cases e
  · cases e
theorem cad_min : CaD X c.ns (fun xs H Q => (∃ i j, xs = [.int i, .int j] ∧ Q (.int (if j < i then j else i)) H) ∨ rMin X.K xs H Q) minD := fun G H vs ds d Qk e s b k => by
  unfold minD at e
  split at e
  · cases e
    obtain ⟨v, ws, rfl, b1, b2⟩ := b.cons_inv
    obtain ⟨v2, ws2, rfl, b3, b4⟩ := b2.cons_inv
    obtain rfl := b4.nil_inv
    obtain rfl := b1.int
    obtain rfl := b3.int
    exact .inl ⟨_, _, rfl, k G H _ (Gr.refl s) (.int _)⟩
  · split at e
    · rename_i xs i is eb
      cases e
      obtain rfl := ints_eq eb
      obtain ⟨v, ws, rfl, b1, b2⟩ := b.cons_inv
      obtain rfl := b2.nil_inv
      obtain ⟨a, us, rfl, h1, q1⟩ := b1.list s
      obtain rfl := q1.ints_inv
      refine .inr ⟨a, i :: is, rfl, SqL.of h1, by simp, fun m hm hle => ?_⟩
      obtain ⟨z1, z2⟩ := minL_mem (l := i :: is) (by simp)
      have : m = minL (i :: is) := by
        have := hle _ z1
        have := z2 _ hm
        omega
      rw [this]
      exact k G H _ (Gr.refl s) (.int _)
    · cases e
  · cases e
def intD : List D → Option D
  | [.int i] => some (.int i)
  | [.bool b] => some (.int (if b then 1 else 0))
  | _ => none
theorem cad_int : CaD X c.ns (fun xs H Q => (∃ i, xs = [.int i] ∧ Q (.int i) H) ∨ ∃ k, xs = [.bl k] ∧ Q (.int (if k then 1 else 0)) H) intD := fun G H vs ds d Qk e s b k => by
  unfold intD at e
  split at e
  · cases e
    obtain ⟨v, ws, rfl, b1, b2⟩ := b.cons_inv
    obtain rfl := b2.nil_inv
    obtain rfl := b1.int
    exact .inl ⟨_, rfl, k G H _ (Gr.refl s) (.int _)⟩
  · cases e
    obtain ⟨v, ws, rfl, b1, b2⟩ := b.cons_inv
    obtain rfl := b2.nil_inv
    obtain rfl := b1.bool
    exact .inr ⟨_, rfl, k G H _ (Gr.refl s) (.int _)⟩
  · cases e
/-! ### list(x), tuple(x) -/
def listD : List D → Option D
  | [.list xs] => some (.list xs)
  | [.tuple xs] => some (.list xs)
  | _ => none
def tupleD : List D → Option D
  | [.list xs] => some (.tuple xs)
  | [.tuple xs] => some (.tuple xs)
  | _ => none
theorem cad_list : CaD X c.ns (fun xs H Q => ∃ p ys, xs = [.ref p] ∧ (SqL X.K H p ys ∨ SqT X.K H p ys) ∧ ∀ l, H l = none → Q (.ref l) (upd H l (.lst ys))) listD := fun G H vs ds d Qk e s b k => by
  unfold listD at e
  split at e
  · cases e
    obtain ⟨v, ws, rfl, b1, b2⟩ := b.cons_inv
    obtain rfl := b2.nil_inv
    obtain ⟨a, us, rfl, h1, q1⟩ := b1.list s
    exact ⟨a, us, rfl, .inl (SqL.of h1), newL s q1 rfl k⟩
  · cases e
    obtain ⟨v, ws, rfl, b1, b2⟩ := b.cons_inv
    obtain rfl := b2.nil_inv
    obtain ⟨a, us, rfl, h1, q1, _⟩ := b1.tuple s
    exact ⟨a, us, rfl, .inr h1, newL s q1 rfl k⟩
  · cases e
theorem cad_tuple : CaD X c.ns (fun xs H Q => ∃ p ys, xs = [.ref p] ∧ ((SqL X.K H p ys ∧ ∀ l, H l = none → Q (.ref l) (upd H l (.tup ys))) ∨ (SqT X.K H p ys ∧ Q (.ref p) H))) tupleD := fun G H vs ds d Qk e s b k => by
  unfold tupleD at e
  split at e
  · cases e
    obtain ⟨v, ws, rfl, b1, b2⟩ := b.cons_inv
    obtain rfl := b2.nil_inv
    obtain ⟨a, us, rfl, h1, q1⟩ := b1.list s
    exact ⟨a, us, rfl, .inl ⟨SqL.of h1, newT s q1 rfl k⟩⟩
  · cases e
    obtain ⟨v, ws, rfl, b1, b2⟩ := b.cons_inv
    obtain rfl := b2.nil_inv
    obtain ⟨a, us, rfl, h1, q1, g1⟩ := b1.tuple s
    exact ⟨a, us, rfl, .inr ⟨h1, k G H _ (Gr.refl s) (.tup g1 q1)⟩⟩
  · cases e
/-- list(range(..)) -/
def rgv (a b : Int) : List D := (List.range (b - a).toNat).map fun (i : Nat) => .int (a + (i : Nat))
theorem QA.rgv {K : PySem.W.Frag} {ns : Sc} {G : Hp} (a b : Int) : QA K ns G (rgV a b) (M.rgv a b) := by
  unfold rgV M.rgv
  generalize (List.range (b - a).toNat) = l
  induction l with
  | nil => exact .nil
  | cons i l ih => exact .cons (.int _) ih
def lrg1 (f : Rho → R D) : Rho → R D := fun ρ => (f ρ).bind fun d => match d with
  | .int j => if -1000000 ≤ j ∧ j ≤ 1000000 then .ok (.list (rgv 0 j)) else .bad
  | _ => .bad
theorem me_listRg1 {a : Expr} {f : Rho → R D} {p p2 pos pos2 : Pos} (hc : X.calm = true) (hg : Gl X "list") (hm : X.mg "list" = none) (hg2 : Gl X "range") (hm2 : X.mg "range" = none) (ha : MB X c W a f) (na : starEach [a] X.env = (false, eval a X.env) :: starEach [] X.env := by rfl)
    (nb : starEach [.Call (.Name "range" p2) [a] [] pos2] X.env = (false, eval (.Call (.Name "range" p2) [a] [] pos2) X.env) :: starEach [] X.env := by rfl) : ME X c W (.Call (.Name "list" p) [.Call (.Name "range" p2) [a] [] pos2] [] pos) (lrg1 f) :=
  PE.imp (pe_listRg hc hg hm (prg_1 hg2 hm2 ha na) nb) fun σ H Qk ⟨G, ρ, ok, p⟩ => step ok p fun x G1 H1 v _ g1 r1 ok1 p1 => by
    cases x with
    | int j =>
      obtain rfl := r1.int
      dsimp only at p1
      split at p1
      · rename_i hj
        exact ⟨j, rfl, ⟨by omega, by omega, by omega, by omega, by omega⟩, newL ok1.s (QA.rgv 0 j) rfl fun G' H' u g q => p1 G' H' u g q⟩
      · exact p1.elim
    | _ => exact p1.elim
/-! ### slices -/
def cutD {α : Type} (xs : List α) (lo hi : Option Int) : List α := (xs.drop (HT.sIx xs.length 0 lo)).take (HT.sIx xs.length xs.length hi - HT.sIx xs.length 0 lo)
theorem QA.cut {K : PySem.W.Frag} {ns : Sc} {G : Hp} {us : List V} {ds : List D} (q : QA K ns G us ds) (lo hi : Option Int) : QA K ns G (cutV us lo hi) (cutD ds lo hi) := by
  unfold cutV cutD
  rw [q.length]
  exact (q.drop _).take _
def slD (d : D) (lo hi : Option Int) : Option D := match d with
  | .list xs => some (.list (cutD xs lo hi))
  | .tuple xs => some (.tuple (cutD xs lo hi))
  | .str z => if z.length ≤ 1000000 then some (.str (cutS z lo hi)) else none
  | _ => none
def SlD (X : Cx) (ns : Sc) (r : V → Option Int → Option Int → Hp → VK → Prop) : Prop := ∀ (G H : Hp) (v : V) (x d : D) (lo hi : Option Int) (Qk : VK), slD x lo hi = some d → Sub G H → B X.K ns G H v x → (∀ G' H' u, Gr G H G' H' → Q X.K ns G' u d → Qk u H') → r v lo hi H Qk
theorem slr : SlR X (fun x lo hi H Q => rSlL X.K x lo hi H Q ∨ rSlA X.K x lo hi H Q ∨ rSlS x lo hi H Q) := sl_list.or (sl_tupA.or sl_str)
theorem sld : SlD X c.ns (fun x lo hi H Q => rSlL X.K x lo hi H Q ∨ rSlA X.K x lo hi H Q ∨ rSlS x lo hi H Q) := fun G H v x d lo hi Qk e s b k => by
  unfold slD at e
  split at e
  · cases e
    obtain ⟨a, us, rfl, h1, q1⟩ := b.list s
    exact .inl ⟨a, us, rfl, SqL.of h1, newL s (q1.cut lo hi) rfl k⟩
  · rename_i xs
    cases e
    obtain ⟨a, us, rfl, h1, q1, g1⟩ := b.tuple s
    refine .inr (.inl ⟨a, us, rfl, h1, fun ⟨z1, z2⟩ => ?_, fun _ => newT s (q1.cut lo hi) rfl k⟩)
    have e : cutD xs lo hi = xs := by
      unfold cutD
      rw [← q1.length, z1, z2]
      simp [q1.length]
    rw [e] at k
    exact k G H _ (Gr.refl s) (.tup g1 q1)
  · split at e
    · rename_i hl
      cases e
      obtain rfl := b.str
      exact .inr (.inr ⟨_, rfl, sz hl, k G H _ (Gr.refl s) (.str _)⟩)
    · cases e
  · cases e
abbrev MO (X : Cx) (c : Cm) (W : WM) (e : Option Expr) (f : Rho → R (Option Int)) : Prop := PO X e (tR X.K c W (fun _ _ (a b : Option Int) => a = b) f)
theorem PO.imp {e : Option Expr} {t t' : TO} (h : PO X e t) (i : ∀ σ H Q, t' σ H Q → t σ H Q) : PO X e t' := ⟨fun pins s σ H Q I hw => h.run pins s σ H Q I (i σ H Q hw)⟩
theorem mo_none : MO X c W none (cst none) := PO.imp po_none fun σ H Qk ⟨G, ρ, ok, p⟩ => p G H none (Gr.refl ok.s) rfl
def asI : D → Option (Option Int)
  | .int i => some (some i)
  | _ => none
theorem mo_some {e : Expr} {f : Rho → R D} (h : MB X c W e f) : MO X c W (some e) (e1 asI f) := PO.imp (po_some h) fun σ H Qk ⟨G, ρ, ok, p⟩ => step ok p fun x G1 H1 v _ g1 r1 ok1 p1 => by
  cases x with
  | int i =>
    obtain rfl := r1.int
    exact ⟨i, rfl, p1 G1 H1 _ (Gr.refl ok1.s) rfl⟩
  | _ => exact p1.elim
def slE (f : Rho → R D) (l h : Rho → R (Option Int)) : Rho → R D := fun ρ => (f ρ).bind fun x => (l ρ).bind fun lo => (h ρ).bind fun hi => R.of (slD x lo hi)
theorem me_slice {e : Expr} {lo hi : Option Expr} {f : Rho → R D} {l h : Rho → R (Option Int)} {p2 pos : Pos} (he : MB X c W e f) (hl : MO X c W lo l) (hh : MO X c W hi h) : ME X c W (.Subscript e (.Slice lo hi none p2) pos) (slE f l h) :=
  PE.imp (pe_slice slr he hl hh) fun σ H Qk ⟨G, ρ, ok, p⟩ => step ok p fun x G1 H1 v _ g1 r1 ok1 p1 => step ok1 p1 fun a G2 H2 a' _ g2 r2 ok2 p2 => step ok2 p2 fun b G3 H3 b' _ g3 r3 ok3 p3 => by
    subst r2 r3
    cases es : slD x a' b' with
    | none => rw [es] at p3; exact p3.elim
    | some d =>
      rw [es] at p3
      exact sld G3 H3 v x d a' b' Qk es ok3.s ((r1.gr g2).gr g3) p3
/-- xs[::-1], a list -/
def revD : D → Option D
  | .list xs => some (.list xs.reverse)
  | _ => none
theorem me_revL {e : Expr} {f : Rho → R D} {k : Nat} {p1 p2 p3 pos : Pos} (he : MB X c W e f) : ME X c W (.Subscript e (.Slice none none (some (.UnaryOp .USub (.Constant (.int 1) k p1) p2)) p3) pos) (e1 revD f) :=
  PE.imp (pe_revL he) fun σ H Qk ⟨G, ρ, ok, p⟩ => step ok p fun x G1 H1 v _ g1 r1 ok1 p1 => by
    cases x with
    | list xs =>
      obtain ⟨a, us, rfl, h1, q1⟩ := r1.list ok1.s
      exact ⟨a, us, rfl, SqL.of h1, newL ok1.s q1.rev rfl p1⟩
    | _ => exact p1.elim
/-! ### in -/
def flatD : D → Bool
  | .list _ => false
  | .tuple _ => false
  | .dict _ => false
  | _ => true
end
end M

namespace M
open PySem PySem.Spec PyProof.Rows L2
/-! ### isinstance -/
inductive Ty where
  | int | bool | str | list | tuple | dict
def Ty.name : Ty → String
  | .int => "int"
  | .bool => "bool"
  | .str => "str"
  | .list => "list"
  | .tuple => "tuple"
  | .dict => "dict"
def tyN : D → String
  | .none => "NoneType"
  | .bool _ => "bool"
  | .int _ => "int"
  | .str _ => "str"
  | .list _ => "list"
  | .tuple _ => "tuple"
  | .dict _ => "dict"
def isi : Ty → D → Bool
  | .int, .int _ => true
  | .int, .bool _ => true
  | .bool, .bool _ => true
  | .str, .str _ => true
  | .list, .list _ => true
  | .tuple, .tuple _ => true
  | _, _ => false
def isDict : D → Bool
  | .dict _ => true
  | _ => false
theorem kit_tab (T : Ty) (d : D) (h : isDict d = false) : kitB (tyN d) T.name = some (isi T d) := by
  cases T <;> cases d <;> first | (simp [isDict] at h; done) | (simp only [tyN, Ty.name, isi]; decide +kernel)
theorem tyX {K : PySem.W.Frag} {ns : Sc} {G H : Hp} {v : V} {d : D} (s : Sub G H) (b : B K ns G H v d) (h : isDict d = false) : TyX K H v (.type (tyN d)) := by
  rcases b with q | ⟨a, us, ds, rfl, rfl, h1, q⟩
  · cases q with
    | non => exact .base .non
    | bl b => exact .base (.bl b)
    | int i => exact .base (.int i)
    | str x => exact .base (.str x)
    | lst h1 h2 => exact .base (.lst (s _ _ h1).1)
    | tup h1 h2 =>
      rcases SqT.same s.same h1 with (h3 | ⟨o, h3⟩) | ⟨o, its, n, h3, h4, _⟩
      · exact .base (.tup h3)
      · exact .fTuple h3
      · exact .kTuple h3 h4
    | scr h1 => exact absurd h (by simp [isDict])
    | ntp is h1 h2 => exact absurd h (by simp [isDict])
    | obj j h1 h2 => exact absurd h (by simp [isDict])
    | dk ks h1 h2 => exact absurd h (by simp [isDict])
    | dt ks h1 h2 => exact absurd h (by simp [isDict])
  · exact .base (.lst h1)
def isiE (T : Ty) : D → Option D := fun d => if isDict d then none else some (.bool (isi T d))
def isiTE (T U : Ty) : D → Option D := fun d => if isDict d then none else some (.bool (isi T d || isi U d))
section
variable {X : Cx} {c : Cm} {W : WM}
theorem me_isi (T : Ty) {e e2 : Expr} {f : Rho → R D} {p pos : Pos} (hg : Gl X "isinstance") (hm : X.mg "isinstance" = none) (hv : bootBuiltins "isinstance" = some (.builtin "isinstance")) (he : MB X c W e f) (h2 : PE X e2 (tC (.ty T.name)))
    (s1 : starEach [e, e2] X.env = (false, eval e X.env) :: starEach [e2] X.env := by rfl) (s2 : starEach [e2] X.env = (false, eval e2 X.env) :: starEach [] X.env := by rfl) (hpl : (backTo pos (starEach [e2] X.env)).any (·.1) = false := by rfl) :
    ME X c W (.Call (.Name "isinstance" p) [e, e2] [] pos) (e1 (isiE T) f) :=
  PE.imp (pe_callB call_isi hg hm hv (pa_cons he (pa_cons h2 pa_nil s2) s1) (by decide) (by decide) s1 hpl) fun σ H Qk ⟨G, ρ, ok, p⟩ => step ok p fun x G1 H1 v _ g1 r1 ok1 p1 => by
    unfold isiE at p1
    cases hd : isDict x with
    | true => rw [hd] at p1; exact p1.elim
    | false =>
      rw [hd] at p1
      exact ⟨v, .ty T.name, .type (tyN x), .type T.name, isi T x, rfl, .ty _, tyX ok1.s r1 hd, kit_ty (kit_tab T x hd), p1 G1 H1 _ (Gr.refl ok1.s) (.bl _)⟩
theorem me_isiT (T U : Ty) {e a b : Expr} {f : Rho → R D} {k : Nat} {p p2 pos : Pos} (hg : Gl X "isinstance") (hm : X.mg "isinstance" = none) (hv : bootBuiltins "isinstance" = some (.builtin "isinstance")) (he : MB X c W e f) (h1 : PE X a (tC (.ty T.name))) (h2 : PE X b (tC (.ty U.name)))
    (s1 : starEach [e, .Tuple [a, b] k p2] X.env = (false, eval e X.env) :: starEach [.Tuple [a, b] k p2] X.env := by rfl) (s2 : starEach [.Tuple [a, b] k p2] X.env = (false, eval (.Tuple [a, b] k p2) X.env) :: starEach [] X.env := by rfl) (hpl : (backTo pos (starEach [.Tuple [a, b] k p2] X.env)).any (·.1) = false := by rfl)
    (s3 : starEach [a, b] X.env = (false, eval a X.env) :: starEach [b] X.env := by rfl) (s4 : starEach [b] X.env = (false, eval b X.env) :: starEach [] X.env := by rfl) :
    ME X c W (.Call (.Name "isinstance" p) [e, .Tuple [a, b] k p2] [] pos) (e1 (isiTE T U) f) :=
  PE.imp (pe_callB call_isiT hg hm hv (pa_cons he (pa_cons (pe_tup (pa_cons h1 (pa_cons h2 pa_nil s4) s3)) pa_nil s2) s1) (by decide) (by decide) s1 hpl) fun σ H Qk ⟨G, ρ, ok, p⟩ => step ok p fun x G1 H1 v _ g1 r1 ok1 p1 => by
    unfold isiTE at p1
    cases hd : isDict x with
    | true => rw [hd] at p1; exact p1.elim
    | false =>
      rw [hd] at p1
      refine ⟨by simp; decide, fun q hq => ?_⟩
      have g2 : Gr G1 H1 G1 (upd H1 q (.tup [.ty T.name, .ty U.name])) := Gr.own ok1.s hq
      refine ⟨v, q, [.ty T.name, .ty U.name], .type (tyN x), [.type T.name, .type U.name], isi T x || isi U x, rfl, upd_same, .cons (.ty _) (.cons (.ty _) .nil), tyX g2.s (r1.gr g2) hd, ?_, p1 G1 _ _ g2 (.bl _)⟩
      refine kitAny_cons (kit_ty (kit_tab T x hd)) (fun h => kitAny_cons (kit_ty (kit_tab U x hd)) (fun h' => ?_) fun h' => ?_) fun h => ?_
      · rw [h, h']; rfl
      · rw [h, h']; rfl
      · rw [h]; rfl
/-! ### in, not in -/
def inD : D → D → Option Bool
  | x, .list ds => if (SeqAt.shaped x && SeqAt.shaped (.list ds)) = true then some (ds.any fun z => PyData.eqv z x) else none
  | x, .tuple ds => if (flatD x && ds.all flatD) = true then some (ds.any fun z => PyData.eqv z x) else none
  | _, _ => none
def ninD (x y : D) : Option Bool := (inD x y).map (!·)
theorem flat_of {K : PySem.W.Frag} {ns : Sc} {G H : Hp} {v : V} {d : D} (b : B K ns G H v d) (h : flatD d = true) : flatV v = true := by
  rcases b with q | ⟨a, us, ds, rfl, rfl, h1, q⟩
  · cases q <;> first | rfl | cases h
  · cases h
theorem eq_flat {K : PySem.W.Frag} {ns : Sc} {G : Hp} {v w : V} {d e : D} (q : Q K ns G v d) (r : Q K ns G w e) (h : flatD d = true) (h' : flatD e = true) : eqV v w = PyData.eqv d e := by
  cases q <;> cases r <;> first | rfl | cases h | cases h' | simp [eqV, PyData.eqv]
theorem B.q {K : PySem.W.Frag} {ns : Sc} {G H : Hp} {v : V} {d : D} (b : B K ns G H v d) (h : flatD d = true) : Q K ns G v d := by
  rcases b with q | ⟨a, us, ds, rfl, rfl, h1, q⟩
  · exact q
  · cases h
theorem QA.flat {K : PySem.W.Frag} {ns : Sc} {G : Hp} : ∀ {us : List V} {ds : List D}, QA K ns G us ds → ds.all flatD = true → us.all flatV = true
  | _, [], h, _ => by cases h; rfl
  | _, d :: ds, h, a => by
    cases h with
    | cons h1 h2 =>
      have a' : flatD d = true ∧ ds.all flatD = true := by simpa using a
      have z := QA.flat h2 a'.2
      have y : flatV _ = true := flat_of (H := G) (.inl h1) a'.1
      simp only [List.all_cons, y, z, Bool.and_self]
theorem QA.anyEq {K : PySem.W.Frag} {ns : Sc} {G : Hp} {v : V} {x : D} (q : Q K ns G v x) (hx : flatD x = true) : ∀ {us : List V} {ds : List D}, QA K ns G us ds → ds.all flatD = true → inV v us = ds.any fun z => PyData.eqv z x
  | _, [], h, _ => by cases h; rfl
  | _, d :: ds, h, a => by
    cases h with
    | cons h1 h2 =>
      have a' : flatD d = true ∧ ds.all flatD = true := by simpa using a
      have := QA.anyEq q hx h2 a'.2
      unfold inV at this ⊢
      simp only [List.any_cons, this, eq_flat h1 q a'.1 hx]
theorem opr_in (hu : X.A.units + 65 < cLine) : OpR X (compareOp .In) (fun x y H Q => rInD X.K x y H Q ∨ rIn X.K false x y H Q) := (op_inD hu).or op_in_seq
theorem opr_nin (hu : X.A.units + 65 < cLine) : OpR X (compareOp .NotIn) (fun x y H Q => rNotInD X.K x y H Q ∨ rIn X.K true x y H Q) := (op_notInD hu).or op_notIn_seq
theorem cmd_in : CmD X c.ns (fun x y H Q => rInD X.K x y H Q ∨ rIn X.K false x y H Q) inD := fun G H v w x y d Qk e s b1 b2 k => by
  unfold inD at e
  split at e
  · split at e
    · rename_i h
      cases e
      have h' := Bool.and_eq_true_iff.mp h
      exact .inl ⟨_, _, b1.dp s h'.1, b2.dp s h'.2, h'.1, h'.2, k G H (Gr.refl s)⟩
    · cases e
  · split at e
    · rename_i h
      cases e
      have h' := Bool.and_eq_true_iff.mp h
      obtain ⟨a, us, rfl, h1, q1, _⟩ := b2.tuple s
      refine .inr ⟨a, us, rfl, .inr h1, flat_of b1 h'.1, q1.flat h'.2, ?_⟩
      rw [if_neg Bool.false_ne_true, QA.anyEq (b1.q h'.1) h'.1 q1 h'.2]
      exact k G H (Gr.refl s)
    · cases e
  · cases e
theorem cmd_nin : CmD X c.ns (fun x y H Q => rNotInD X.K x y H Q ∨ rIn X.K true x y H Q) ninD := fun G H v w x y d Qk e s b1 b2 k => by
  unfold ninD inD at e
  split at e
  · split at e
    · rename_i h
      cases e
      have h' := Bool.and_eq_true_iff.mp h
      exact .inl ⟨_, _, b1.dp s h'.1, b2.dp s h'.2, h'.1, h'.2, k G H (Gr.refl s)⟩
    · cases e
  · split at e
    · rename_i h
      cases e
      have h' := Bool.and_eq_true_iff.mp h
      obtain ⟨a, us, rfl, h1, q1, _⟩ := b2.tuple s
      refine .inr ⟨a, us, rfl, .inr h1, flat_of b1 h'.1, q1.flat h'.2, ?_⟩
      rw [if_pos rfl, QA.anyEq (b1.q h'.1) h'.1 q1 h'.2]
      exact k G H (Gr.refl s)
    · cases e
  · cases e
theorem units65 {k : Nat} {A : Around} (r : Room k A) : A.units + 65 < cLine := by have := r.un; omega
/-! ### index -/
def rIndexT (K : PySem.W.Frag) : V → List V → Hp → VK → Prop := fun x xs H Q => ∃ (a : Addr) (ys : List V) (y : V) (j : Nat) (z : V), x = V.ref a ∧ xs = [y] ∧ SqT K H a ys ∧ flatV y = true ∧ ys.all flatV = true ∧ ys[j]? = some z ∧ eqV z y = true ∧
  (∀ (m : Nat) (z' : V), m < j → ys[m]? = some z' → eqV z' y = false) ∧ Q (.int (j : Nat)) H
theorem mt_indexT : MtR X "tuple.index" (rIndexT X.K) := by
  intro pins s σ H x xs v us Q I rx rxs h
  obtain ⟨p, ys, y, j, z, rfl, rfl, hq, fy, fys, hz, hzj, hno, q⟩ := h
  cases rx
  obtain ⟨u, rfl, ru⟩ := vals1 rxs
  obtain ⟨its, r, pl, hzz⟩ := I.tuple hq
  obtain ⟨⟨cls, dd, dt, sl⟩, ho, hc, n, hd⟩ := pl
  simp only at hc hd
  subst hc
  subst hd
  have hl : its.toArray.size = ys.length := by rw [List.size_toArray, ← r.length]
  have hj : j < its.toArray.size := by rw [hl]; exact (List.getElem?_eq_some_iff.mp hz).1
  have at' : ∀ (m : Nat) (hm : m < its.toArray.size) (w : V), ys[m]? = some w → RelV w its.toArray[m] := fun m hm w hw => by
    obtain ⟨w', h1, h2⟩ := r.get (i := m) hw
    have e := (List.getElem?_eq_some_iff.mp h1).2
    rw [← e] at h2
    simpa using h2
  have fl : ∀ (m : Nat) (w : V), ys[m]? = some w → flatV w = true := fun m w hw => List.all_eq_true.mp fys w (List.mem_of_getElem? hw)
  refine call_meets PySem.F.slot_tuple_index ⟨_, ho, rfl⟩ PySem.F.entry_tuple_index (PySem.F.args_tuple_index_2 _ _) (TI.tuple_indexAt p its.toArray n dd sl u (eqU y) j hj ?_ ?_)
    ⟨ho, fun w hw => mem_eqAt (x := y) ru fy r fys w (by simpa using hw), ⟨.int (j : Nat), H, I.tok _, ⟨_, rfl⟩, q⟩⟩
  · rw [eqU_of (at' j hj z hz) (fl j z hz)]
    exact hzj
  · intro m hm hmj
    have hmy : m < ys.length := by rw [← hl]; exact hm
    have e := List.getElem?_eq_getElem hmy
    rw [eqU_of (at' m hm _ e) (fl m _ e)]
    exact hno m _ hmj e
/-- the first place -/
def findI (x : D) : List D → Option Nat
  | [] => none
  | d :: ds => if PyData.eqv d x then some 0 else (findI x ds).map (· + 1)
theorem findI_spec {x : D} : ∀ {ds : List D} {j : Nat}, findI x ds = some j → ∃ z, ds[j]? = some z ∧ PyData.eqv z x = true ∧ ∀ (m : Nat) (z' : D), m < j → ds[m]? = some z' → PyData.eqv z' x = false
  | [], _, h => by cases h
  | d :: ds, j, h => by
    unfold findI at h
    split at h
    · rename_i hd
      cases h
      exact ⟨d, rfl, hd, fun m z' hm _ => absurd hm (Nat.not_lt_zero m)⟩
    · rename_i hd
      cases e : findI x ds with
      | none => rw [e] at h; cases h
      | some i =>
        rw [e] at h
        cases h
        obtain ⟨z, h1, h2, h3⟩ := findI_spec e
        refine ⟨z, by simpa using h1, h2, fun m z' hm hz' => ?_⟩
        cases m with
        | zero =>
          simp at hz'
          subst hz'
          simpa using hd
        | succ m => exact h3 m z' (by simpa using hm) (by simpa using hz')
def idxD : D → D → Option D
  | .tuple ds, x => if (flatD x && ds.all flatD) = true then (findI x ds).map fun j => .int (j : Nat) else none
  | .list ds, x => if (flatD x && ds.all flatD) = true then (findI x ds).map fun j => .int (j : Nat) else none
  | _, _ => none
theorem idx_road {K : PySem.W.Frag} {ns : Sc} {G : Hp} {v : V} {us : List V} {x : D} {ds : List D} {j : Nat} (q : Q K ns G v x) (qs : QA K ns G us ds) (h : (flatD x && ds.all flatD) = true) (e : findI x ds = some j) :
    flatV v = true ∧ us.all flatV = true ∧ ∃ z, us[j]? = some z ∧ eqV z v = true ∧ ∀ (m : Nat) (z' : V), m < j → us[m]? = some z' → eqV z' v = false := by
  have h' := Bool.and_eq_true_iff.mp h
  have fl : ∀ (m : Nat) (w : D), ds[m]? = some w → flatD w = true := fun m w hw => List.all_eq_true.mp h'.2 w (List.mem_of_getElem? hw)
  obtain ⟨z, h1, h2, h3⟩ := findI_spec e
  obtain ⟨w, hw, qw⟩ := qs.get h1
  refine ⟨flat_of (H := G) (.inl q) h'.1, qs.flat h'.2, w, hw, ?_, fun m z' hm hz' => ?_⟩
  · rw [eq_flat qw q (fl j z h1) h'.1]; exact h2
  · have hml : m < ds.length := by rw [← qs.length]; exact (List.getElem?_eq_some_iff.mp hz').1
    have e1 := List.getElem?_eq_getElem hml
    obtain ⟨w', hw', qw'⟩ := qs.get e1
    rw [hz'] at hw'
    cases hw'
    rw [eq_flat qw' q (fl m _ e1) h'.1]
    exact h3 m _ hm e1
theorem PE.or {e : Expr} {t t' : TE} (h : PE X e t) (h' : PE X e t') : PE X e (fun σ H Q => t σ H Q ∨ t' σ H Q) := ⟨fun pins s σ H Q I hw => by
  rcases hw with hw | hw
  · exact h.run pins s σ H Q I hw
  · exact h'.run pins s σ H Q I hw⟩
def idxL : D → D → Option D
  | .list ds, x => if (flatD x && ds.all flatD) = true then (findI x ds).map fun j => .int (j : Nat) else none
  | _, _ => none
theorem me_idxL {E : Expr} {f g : Rho → R D} (h2 : PE X E (tBM X.K "list" (rIndex X.K) (tR X.K c W (RelB X.K c.ns) f) (tCons (tR X.K c W (RelB X.K c.ns) g) tNil))) : ME X c W E (fun ρ => (f ρ).bind fun d => match d with
    | .list ds => (g ρ).bind fun x => R.of (idxL (.list ds) x)
    | _ => .bad) :=
  PE.imp h2 fun σ H Qk ⟨G, ρ, ok, p⟩ => step ok p fun d G1 H1 v _ g1 r1 ok1 p1 => by
    cases d with
    | list ds =>
      obtain ⟨a, us, rfl, h1, q1⟩ := r1.list ok1.s
      refine ⟨tyL h1, step ok1 p1 fun y G2 H2 w _ g2 r2 ok2 p2 => ?_⟩
      unfold idxL at p2
      dsimp only at p2
      by_cases hf : (flatD y && ds.all flatD) = true
      · rw [if_pos hf] at p2
        cases ej : findI y ds with
        | none => rw [ej] at p2; exact p2.elim
        | some j =>
          rw [ej] at p2
          obtain ⟨a, us, e3, h3, q3⟩ := (r1.gr g2).list ok2.s
          cases e3
          obtain ⟨f1, f2, z, f3, f4, f5⟩ := idx_road (r2.q (Bool.and_eq_true_iff.mp hf).1) q3 hf ej
          exact ⟨_, us, w, j, z, rfl, rfl, SqL.of h3, f1, f2, f3, f4, f5, p2 G2 H2 _ (Gr.refl ok2.s) (.int _)⟩
      · rw [if_neg hf] at p2; exact p2.elim
    | _ => exact p1.elim
/-! ### the module's own -/
/-- a tuple of the module's text: its ints -/
structure KTup (K : PySem.W.Frag) (mg : Str → Option Value) (x : Str) (is : List Int) : Prop where
  ex : ∃ (a : Addr) (o : Obj) (its : Array Value) (n : Nat), mg x = some (.ref a) ∧ K.lookup a = some o ∧ o.cls = .type "tuple" ∧ o.dict = none ∧ o.data = .seq its n ∧ its.size ≤ sizeLine ∧ Vals (is.map V.int) its.toList
theorem me_globT {x : Str} {is : List Int} {pos : Pos} (k : KTup X.K X.mg x is) (hg : Gl X x) (hd : (x == ("__debug__" : Str)) = false := by decide) : ME X c W (.Name x pos) (cst (.tuple (is.map .int))) := by
  obtain ⟨a, o, its, n, h1, h2, h3, h4, h5, h6, h7⟩ := k.ex
  exact me_cst (v := .ref a) (pe_glob hg h1 rfl hd) fun G => .tup (.inr ⟨o, its, n, h2, h3, h5, h6, h7⟩) QA.ints
theorem me_globI {x : Str} {i : Int} {t : Tok} {pos : Pos} (hg : Gl X x) (hm : X.mg x = some (.int i t)) (hd : (x == ("__debug__" : Str)) = false := by decide) : ME X c W (.Name x pos) (cst (.int i)) := me_cst (v := .int i) (pe_glob hg hm ⟨t, rfl⟩ hd) fun G => .int i
def idxK (is : List Int) : D → Option D := fun x => if flatD x = true then (findI x (is.map .int)).map fun j => .int (j : Nat) else none
theorem flat_ints (is : List Int) : (is.map PyData.int).all flatD = true := by
  induction is with
  | nil => rfl
  | cons i is ih => show (flatD (.int i) && (is.map PyData.int).all flatD) = true; rw [ih]; rfl
theorem me_idxK {x : Str} {is : List Int} {E : Expr} {g : Rho → R D} {pos : Pos} (k : KTup X.K X.mg x is) (hg : Gl X x) (hp : ∀ {to : TE}, PE X (.Name x pos) to → PE X E (tBM X.K "tuple" (rIndexT X.K) to (tCons (tR X.K c W (RelB X.K c.ns) g) tNil))) (hd : (x == ("__debug__" : Str)) = false := by decide) : ME X c W E (e1 (idxK is) g) := by
  obtain ⟨a, o, its, n, h1, h2, h3, h4, h5, h6, h7⟩ := k.ex
  refine PE.imp (hp (pe_glob (v := .ref a) hg h1 rfl hd)) fun σ H Qk ⟨G, ρ, ok, p⟩ => ⟨.inr (.inl ⟨rfl, o, h2, h3, h4⟩), step ok p fun y G1 H1 w _ g1 r1 ok1 p1 => ?_⟩
  unfold idxK at p1
  by_cases hf : flatD y = true
  · rw [if_pos hf] at p1
    cases ej : findI y (is.map .int) with
    | none => rw [ej] at p1; exact p1.elim
    | some j =>
      rw [ej] at p1
      obtain ⟨f1, f2, z, f3, f4, f5⟩ := idx_road (r1.q hf) (QA.ints (is := is)) (by rw [hf, flat_ints]; rfl) ej
      exact ⟨a, _, w, j, z, rfl, rfl, .inr ⟨o, its, n, h2, h3, h5, h6, h7⟩, f1, f2, f3, f4, f5, p1 G1 H1 _ (Gr.refl ok1.s) (.int _)⟩
  · rw [if_neg hf] at p1; exact p1.elim
/-! ### a call that lends lists of one's own; what it tells is flat -/
def unt (H : Hp) : Hp := fun b => match H b with
  | some (.tbl _) => none
  | o => o
theorem unt_sub (H : Hp) : Sub (unt H) H := fun b o h => by
  unfold unt at h
  cases e : H b with
  | none => rw [e] at h; cases h
  | some u => cases u <;> rw [e] at h <;> cases h <;> exact ⟨rfl, fun _ z => nomatch z⟩
theorem unt_same {G H : Hp} (s : Sub G H) : Same G (unt H) := fun b o h => by
  obtain ⟨h1, h2⟩ := s b o h
  unfold unt
  rw [h1]
  cases o <;> first | rfl | exact absurd rfl (h2 _)
theorem BA.lend {K : PySem.W.Frag} {ns : Sc} {G H : Hp} (s : Sub G H) : ∀ {vs : List V} {ds : List D}, BA K ns G H vs ds → QA K ns (unt H) vs ds := fun h => by
  induction h with
  | nil => exact .nil
  | cons b _ ih =>
    refine .cons ?_ ih
    rcases b with q | ⟨a, us, ds, rfl, rfl, h1, q⟩
    · exact Q.mono (unt_same s) _ _ q
    · refine .lst ?_ (QA.mono (unt_same s) _ _ q)
      unfold unt
      rw [h1]
theorem Q.flat {K : PySem.W.Frag} {ns : Sc} {G G' : Hp} {v : V} {d : D} (q : Q K ns G v d) (h : flatD d = true) : Q K ns G' v d := by
  cases q with
  | non => exact .non
  | bl b => exact .bl b
  | int i => exact .int i
  | str x => exact .str x
  | _ => cases h
def flatR : Out → R D
  | .rt x => if flatD x then .ok x else .bad
  | .rz z _ => .rz z
  | _ => .bad
def lcall (f : List D → Out) (g : Rho → R (List D)) : Rho → R D := fun ρ => (g ρ).bind fun ds => flatR (f ds)
theorem me_lcall {k : Nat} {fa : Addr} {fd : FuncData} {ps : List Str} {x : Str} {p pos : Pos} {e : Expr} {es : List Expr} {f : List D → Out} {g : Rho → R (List D)} (F : FnOk X.prog X.w X.K X.mg X.base CX0 k fa fd ps (spM X.K c.ns X.mg f)) (hr : Room k X.A) (hg : Gl X x) (hm : X.mg x = some (.ref fa)) (hk : PySem.W.keepIn X.K (.ref fa) = true) (hb : Binds X.K fd ps [])
    (ha : MBA X c W0 (e :: es) g) (hdb : (x == ("__debug__" : Str)) = false := by decide) (he : starEach (e :: es) X.env = (false, eval e X.env) :: starEach es X.env := by rfl) (hpl : (backTo pos (starEach es X.env)).any (·.1) = false := by rfl) :
    ME X c W0 (.Call (.Name x p) (e :: es) [] pos) (lcall f g) :=
  PE.imp (pe_call F hr hg hm hk hb .nil pass0 ha hdb he hpl) fun σ H Qk ⟨G, ρ, ok, p⟩ => step ok p fun ds G1 H1 vs _ g1 r1 ok1 p1 => by
    show spM X.K c.ns X.mg f (vs ++ []) H1 Qk E0
    rw [List.append_nil]
    refine ⟨unt H1, ds, unt_sub H1, r1.lend ok1.s, ?_⟩
    have back : ∀ {G' H' : Hp}, Gr (unt H1) H1 G' H' → Gr G1 H1 G1 H' := fun g => ⟨Same.refl _, g.h, ok1.s.ex g.h, fun _ _ _ _ z => z⟩
    cases e : f ds with
    | rt x =>
      rw [e] at p1
      unfold flatR at p1
      dsimp only at p1
      by_cases hf : flatD x = true
      · rw [if_pos hf] at p1
        exact fun G' H' v g q => p1 G1 H' v (back g) (q.flat hf)
      · rw [if_neg hf] at p1; exact p1.elim
    | rz z ρ' => rw [e] at p1; exact fun G' H' g C _ => p1 G1 H' (back g)
    | _ => rw [e] at p1; exact p1.elim
/-! ### sorted, of ints -/
def ins (x : Int) : List Int → List Int
  | [] => [x]
  | y :: r => if x ≤ y then x :: y :: r else y :: ins x r
def sortI : List Int → List Int
  | [] => []
  | x :: r => ins x (sortI r)
theorem ins_perm (x : Int) : ∀ l : List Int, (ins x l).Perm (x :: l)
  | [] => .refl _
  | y :: r => by
    unfold ins
    split
    · exact .refl _
    · exact ((ins_perm x r).cons y).trans (.swap x y r)
theorem sortI_perm : ∀ l : List Int, (sortI l).Perm l
  | [] => .refl _
  | x :: r => (ins_perm x (sortI r)).trans ((sortI_perm r).cons x)
theorem ins_sorted (x : Int) : ∀ {l : List Int}, l.Pairwise (· ≤ ·) → (ins x l).Pairwise (· ≤ ·)
  | [], _ => by simp [ins]
  | y :: r, h => by
    unfold ins
    have h' := List.pairwise_cons.mp h
    split
    · rename_i hx
      exact List.pairwise_cons.mpr ⟨fun z hz => by
        rcases List.mem_cons.mp hz with rfl | hz
        · exact hx
        · exact Int.le_trans hx (h'.1 z hz), h⟩
    · rename_i hx
      refine List.pairwise_cons.mpr ⟨fun z hz => ?_, ins_sorted x h'.2⟩
      rcases List.mem_cons.mp ((ins_perm x r).mem_iff.mp hz) with rfl | hz
      · omega
      · exact h'.1 z hz
theorem sortI_sorted : ∀ l : List Int, (sortI l).Pairwise (· ≤ ·)
  | [] => .nil
  | x :: r => ins_sorted x (sortI_sorted r)
theorem sorted_uniq : ∀ {l m : List Int}, l.Perm m → l.Pairwise (· ≤ ·) → m.Pairwise (· ≤ ·) → l = m := by
  intro l m p h1 h2
  exact List.Perm.eq_of_pairwise (fun a b _ _ h h' => Int.le_antisymm h h') h1 h2 p
def sortD : List D → Option D
  | [.list xs] => (intsOf xs).map fun is => .list ((sortI is).map .int)
  | _ => none
theorem cad_sorted : CaD X c.ns (rSortedI X.K) sortD := fun G H vs ds d Qk e s b k => by
  unfold sortD at e
  split at e
  · rename_i xs
    cases eb : intsOf xs with
    | none => rw [eb] at e; cases e
    | some bs =>
      rw [eb] at e
      cases e
      obtain rfl := ints_eq eb
      obtain ⟨v, ws, rfl, b1, b2⟩ := b.cons_inv
      obtain rfl := b2.nil_inv
      obtain ⟨a, us, rfl, h1, q1⟩ := b1.list s
      obtain rfl := q1.ints_inv
      refine ⟨a, bs, rfl, SqL.of h1, fun ns' p hp hs hn => ?_⟩
      have e : ns' = sortI bs := sorted_uniq (hp.trans (sortI_perm bs).symm) hs (sortI_sorted bs)
      rw [e]
      exact newL s QA.ints rfl k p hn
  · cases e
end
end M

namespace M
open PySem PySem.Spec PyProof.Rows L2
/-! ### the script -/
def isScr (i : Nat) (ρ : Rho) : Bool := match ρ[i]? with
  | some (.d (.dict [(.none, .none)])) => true
  | _ => false
section
variable {X : Cx} {c : Cm} {W : WM}
theorem scr_of {K : PySem.W.Frag} {G H : Hp} {ρ : Rho} {σ : L2.St} {i : Nat} (ok : Ok K c G H ρ σ) (h : isScr i ρ = true) : ∃ a, σ[i]? = some (some (.ref a)) ∧ SqL K H a (c.ns.l.map V.int) := by
  unfold isScr at h
  split at h
  · rename_i e
    obtain ⟨u, e2, q⟩ := ok.sl i _ e
    cases q with
    | scr h1 => exact ⟨_, e2, ok.s.same.seq h1⟩
    | obj j h1 h2 => cases h2
    | dk ks h1 h2 => cases ks <;> cases h2
    | dt ks h1 h2 => cases ks <;> cases h2
  · cases h
def lenS (ns : List Int) (i : Nat) : Rho → R D := fun ρ => if isScr i ρ then .ok (.int ns.length) else .bad
theorem me_lenS (i : Nat) {e : Expr} {p pos : Pos} (hg : Gl X "len") (hm : X.mg "len" = none) (hv : bootBuiltins "len" = some (.builtin "len")) (he : PE X e (tVar i)) (s1 : starEach [e] X.env = (false, eval e X.env) :: starEach [] X.env := by rfl) (hpl : (backTo pos (starEach [] X.env)).any (·.1) = false := by rfl) :
    ME X c W (.Call (.Name "len" p) [e] [] pos) (lenS c.ns.l i) :=
  PE.imp (pe_callB call_len hg hm hv (pa_cons he pa_nil s1) (by decide) (by decide) s1 hpl) fun σ H Qk ⟨G, ρ, ok, p⟩ => by
    unfold lenS at p
    by_cases h : isScr i ρ = true
    · rw [if_pos h] at p
      obtain ⟨a, e1, hs⟩ := scr_of ok h
      exact ⟨_, e1, _, c.ns.l.length, rfl, .inl ⟨_, hs, by simp⟩, p G H _ (Gr.refl ok.s) (.int _)⟩
    · rw [if_neg h] at p; exact p.elim
def ixS (ns : List Int) (i : Nat) (g : Rho → R D) : Rho → R D := fun ρ => if isScr i ρ then (g ρ).bind fun k => match k with
  | .int k => R.of ((atI ns k).map .int)
  | _ => .bad else .bad
theorem me_ixS (i : Nat) {e k : Expr} {g : Rho → R D} {pos : Pos} (he : PE X e (tVar i)) (hk : MB X c W k g) (hs : PlainIx k) : ME X c W (.Subscript e k pos) (ixS c.ns.l i g) :=
  PE.imp (pe_ix ix_list he hk hs) fun σ H Qk ⟨G, ρ, ok, p⟩ => by
    unfold ixS at p
    by_cases h : isScr i ρ = true
    · rw [if_pos h] at p
      obtain ⟨a, e1, _⟩ := scr_of ok h
      refine ⟨_, e1, step ok p fun x G1 H1 v _ g1 r1 ok1 p1 => ?_⟩
      obtain ⟨a', e1', hs'⟩ := scr_of ok1 h
      rw [e1] at e1'
      cases e1'
      cases x with
      | int k =>
        obtain rfl := r1.int
        dsimp only at p1
        cases ea : atI c.ns.l k with
        | none => rw [ea] at p1; exact p1.elim
        | some n =>
          rw [ea] at p1
          refine ⟨a, _, k, .int n, rfl, rfl, hs', ?_, p1 G1 H1 _ (Gr.refl ok1.s) (.int n)⟩
          unfold atI at ea ⊢
          rw [List.length_map]
          cases ei : ixN c.ns.l.length k with
          | none => rw [ei] at ea; cases ea
          | some j =>
            rw [ei] at ea
            show (c.ns.l.map V.int)[j]? = _
            rw [List.getElem?_map]
            rw [show c.ns.l[j]? = some n from ea]
            rfl
      | _ => exact p1.elim
    · rw [if_neg h] at p; exact p.elim
def nilS (ns : List Int) (i : Nat) : Rho → R Bool := fun ρ => if isScr i ρ then .ok (decide (ns = [])) else .bad
theorem dpS {K : PySem.W.Frag} {H : Hp} : ∀ ns : List Int, DpAll K H (ns.map V.int) (ns.map .int)
  | [] => .nil
  | n :: ns => .cons (.int n) (dpS ns)
theorem lay_ints : ∀ ns : List Int, PyData.canLayAll0 (ns.map .int) = true
  | [] => by simp [PyData.canLayAll0]
  | n :: ns => by simp [PyData.canLayAll0, PyData.canLay0, lay_ints ns]
theorem depth_ints : ∀ ns : List Int, PyData.depthAll (ns.map .int) = 0
  | [] => by simp [PyData.depthAll]
  | n :: ns => by simp [PyData.depthAll, PyData.depth, depth_ints ns]
theorem shaped_ints (ns : List Int) : SeqAt.shaped (.list (ns.map .int)) = true := by
  simp [SeqAt.shaped, PyData.canLay0, lay_ints, PyData.depth, depth_ints]
theorem shaped_tints (ns : List Int) : SeqAt.shaped (.tuple (ns.map .int)) = true := by
  simp [SeqAt.shaped, PyData.canLay0, lay_ints, PyData.depth, depth_ints]
theorem mt_nilS (hu : X.A.units + 64 < cLine) (i : Nat) {e : Expr} {pos pos2 : Pos} (he : PE X e (tVar i)) : MT X c W (.Compare e [.Eq] [.List [] pos2] pos) (nilS c.ns.l i) :=
  PT.imp (pt_cmpR (op_eqD hu) he (pe_lst pa_nil) (nomark _)) fun σ H Qk ⟨G, ρ, ok, p⟩ => by
    unfold nilS at p
    by_cases h : isScr i ρ = true
    · rw [if_pos h] at p
      obtain ⟨a, e1, hs⟩ := scr_of ok h
      refine ⟨_, e1, Nat.zero_le _, fun q hq => ?_⟩
      have g2 : Gr G H G (upd H q (.lst [])) := Gr.own ok.s hq
      obtain ⟨a', e1', hs'⟩ := scr_of (ok.gr g2) h
      rw [e1] at e1'
      cases e1'
      refine ⟨.list (c.ns.l.map .int), .list [], .lst hs' (dpS _), .lst (SqL.of upd_same) .nil, shaped_ints _, by decide +kernel, _, rfl, ?_⟩
      have e2 : PyData.eqv (.list (c.ns.l.map .int)) (.list []) = decide (c.ns.l = []) := by
        cases c.ns.l with
        | nil => simp [PyData.eqv, PyData.eqvAll]
        | cons n ns => simp [PyData.eqv, PyData.eqvAll]
      rw [e2]
      exact p G _ _ g2 rfl
    · rw [if_neg h] at p; exact p.elim
end
/-- the script's cell at k -/
def cell (ns : List Int) (k : Int) : Int := if k < ns.length then (atI ns k).getD 0 else if ns = [] then 0 else (atI ns (k % ns.length)).getD 0 * 31 + k
def pick (ns : List Int) (k many : Int) : Int :=
  let drawn := (cell ns k + 6151 * (k + 1)) * 40692 % 2147483399
  (drawn * drawn + drawn / 31) % 2147483629 % many
theorem pick_lo {ns : List Int} {k many : Int} (h : 0 < many) : 0 ≤ pick ns k many := Int.emod_nonneg _ (by omega)
theorem pick_hi {ns : List Int} {k many : Int} (h : 0 < many) : pick ns k many < many := Int.emod_lt_of_pos _ h
/-- a promise by another function that tells the same -/
theorem FnOk.by {P : Program} {w : World} {K : PySem.W.Frag} {mg : Str → Option Value} {base : Heap} {CX : CXT} {k : Nat} {f : Addr} {fd : FuncData} {ps : List Str} {ns : Sc} {m m' : List D → Out} (F : FnOk P w K mg base CX k f fd ps (spM K ns mg m)) (h : ∀ ds, m' ds ≠ .bad → m ds = m' ds) : FnOk P w K mg base CX k f fd ps (spM K ns mg m') :=
  F.imp fun vs H Qk E ⟨G, ds, s, q, p⟩ => ⟨G, ds, s, q, by
    by_cases hb : m' ds = .bad
    · rw [hb] at p; exact p.elim
    · rw [h ds hb]; exact p⟩
/-- _law_cell, _law_pick as functions of the script's draws -/
def cellF (C : Int → Int) : List D → Out
  | [.dict [(.none, .none)], .int k] => if 0 ≤ k then .rt (.int (C k)) else .bad
  | _ => .bad
def pickF (P : Int → Int → Int) : List D → Out
  | [.dict [(.none, .none)], .int k, .int m] => if 0 ≤ k ∧ 0 < m then .rt (.int (P k m)) else .bad
  | _ => .bad
end M

namespace M
open PySem PySem.Spec PyProof.Rows L2
/-! ### built-ins by name -/
theorem bt_len : bootBuiltins "len" = some (.builtin "len") := by decide +kernel
theorem bt_abs : bootBuiltins "abs" = some (.builtin "abs") := by decide +kernel
theorem bt_all : bootBuiltins "all" = some (.builtin "all") := by decide +kernel
theorem bt_any : bootBuiltins "any" = some (.builtin "any") := by decide +kernel
theorem bt_sum : bootBuiltins "sum" = some (.builtin "sum") := by decide +kernel
theorem bt_min : bootBuiltins "min" = some (.builtin "min") := by decide +kernel
theorem bt_max : bootBuiltins "max" = some (.builtin "max") := by decide +kernel
theorem bt_sorted : bootBuiltins "sorted" = some (.builtin "sorted") := by decide +kernel
theorem bt_isinstance : bootBuiltins "isinstance" = some (.builtin "isinstance") := by decide +kernel
theorem bt_int : bootBuiltins "int" = some (.type "int") := by decide +kernel
theorem bt_bool : bootBuiltins "bool" = some (.type "bool") := by decide +kernel
theorem bt_str : bootBuiltins "str" = some (.type "str") := by decide +kernel
theorem bt_list : bootBuiltins "list" = some (.type "list") := by decide +kernel
theorem bt_tuple : bootBuiltins "tuple" = some (.type "tuple") := by decide +kernel
theorem bt_dict : bootBuiltins "dict" = some (.type "dict") := by decide +kernel
theorem bt_set : bootBuiltins "set" = some (.type "set") := by decide +kernel
section
variable {X : Cx} {c : Cm} {W : WM}
/-! ### lists that are made, as one's own -/
def OpN (X : Cx) (ns : Sc) (r : R2) (o : D → D → Option (List D)) : Prop := ∀ (G H : Hp) (v w : V) (x y : D) (ds : List D) (Qk : VK), o x y = some ds → Sub G H → B X.K ns G H v x → B X.K ns G H w y → (∀ us, QA X.K ns G us ds → ∀ p, H p = none → Qk (.ref p) (upd H p (.lst us))) → r v w H Qk
theorem mn_op {op : Operator} {r : R2} {o : D → D → Option (List D)} {a b : Expr} {f g : Rho → R D} {pos : Pos} (ho : OpR X (binaryOp op) r) (hr : OpN X c.ns r o) (ha : MB X c W a f) (hb : MB X c W b g) : MN X c W (.BinOp a op b pos) (nO (e2 o f g)) :=
  PE.imp (pe_op ho ha hb) fun σ H Qk ⟨G, ρ, ok, p⟩ => by
    have e0 : nO (e2 o f g) ρ = (f ρ).bind fun x => (g ρ).bind fun y => (R.of (o x y)).bind fun xs => .ok (.o xs) := by
      unfold nO e2
      cases f ρ with
      | ok x => cases g ρ <;> rfl
      | _ => rfl
    rw [e0] at p
    exact stepN ok p fun x G1 H1 v _ g1 r1 ok1 p1 => stepN ok1 p1 fun y G2 H2 w _ g2 r2 ok2 p2 => by
      cases e : o x y with
      | none => rw [e] at p2; exact p2.elim
      | some ds =>
        rw [e] at p2
        exact hr G2 H2 v w x y ds Qk e ok2.s (r1.gr g2) r2 fun us q p hp => p2 G2 _ _ (Gr.own ok2.s hp) ⟨p, us, rfl, upd_same, ok2.s.free hp, Nw.none hp, q⟩
def catN : D → D → Option (List D)
  | .list xs, .list ys => if xs.length + ys.length ≤ 1000000 then some (xs ++ ys) else none
  | _, _ => none
theorem opn_cat : OpN X c.ns rCat catN := fun G H v w x y d Qk e s b1 b2 k => by
  unfold catN at e
  split at e
  · split at e
    · rename_i hl
      cases e
      obtain ⟨a, us, rfl, h1, q1⟩ := b1.list s
      obtain ⟨b, ws, rfl, h2, q2⟩ := b2.list s
      exact ⟨a, b, us, ws, rfl, rfl, h1, h2, by rw [q1.length, q2.length]; exact sz hl, k _ (q1.append q2)⟩
    · cases e
  · cases e
def repN : D → D → Option (List D)
  | .list xs, .int k => if k ≤ 1000000 ∧ -1000000 ≤ k ∧ xs.length * k.toNat ≤ 1000000 then some (rep k.toNat xs) else none
  | _, _ => none
theorem opn_rep : OpN X c.ns rRep repN := fun G H v w x y d Qk e s b1 b2 k => by
  unfold repN at e
  split at e
  · split at e
    · rename_i hc
      cases e
      obtain ⟨a, us, rfl, h1, q1⟩ := b1.list s
      obtain rfl := b2.int
      exact ⟨a, _, us, rfl, rfl, h1, by omega, by omega, by rw [q1.length]; exact sz hc.2.2, k _ (q1.rep _)⟩
    · cases e
  · cases e
end
end M

namespace M
open PySem PySem.Spec PyProof.Rows L2
def idxE (f g : Rho → R D) : Rho → R D := fun ρ => (f ρ).bind fun d => match d with
    | .list ds => (g ρ).bind fun x => R.of (idxL (.list ds) x)
    | _ => .bad
theorem scr_unt {K : PySem.W.Frag} {H : Hp} {a : Addr} {xs : List V} (h : SqL K H a xs) : SqL K (unt H) a xs := by
  rcases h with (h | ⟨o, h⟩) | h
  · exact .inl (.inl (by unfold unt; rw [h]))
  · exact .inl (.inr ⟨o, by unfold unt; rw [h]⟩)
  · exact .inr h
theorem cell_mir (ns : List Int) : ∀ ds, cellF (cell ns) ds ≠ .bad → fnM0 2 2 (sSeq (sIf (e2 ltD (bnm 1) (lenS ns 0)) (sRet (ixS ns 0 (bnm 1))) sNil) (sSeq (sIf (nilS ns 0) (sRet (cst (.int 0))) sNil) (sRet (e2 addD (e2 mulD (ixS ns 0 (e2 modD (bnm 1) (lenS ns 0))) (cst (.int 31))) (bnm 1))))) ds = cellF (cell ns) ds := by
  intro ds hb
  unfold cellF at hb ⊢
  split at hb
  · rename_i k
    split at hb
    · rename_i hk
      rw [if_pos hk]
      have key : ∀ j : Int, 0 ≤ j → j < ns.length → ∃ n, atI ns j = some n := fun j h0 h1 => by
        unfold atI ixN
        rw [if_pos h0, if_pos h1]
        exact ⟨ns[j.toNat]'(by omega), List.getElem?_eq_getElem (by omega)⟩
      unfold cell
      by_cases h1 : k < (ns.length : Int)
      · obtain ⟨n, hn⟩ := key k hk h1
        simp [fnM0, fnM, sSeq, sIf, e2, bnm, lenS, isScr, R.bind, R.of, R.out, ltD, h1, sRet, ixS, hn]
      · by_cases h2 : ns = []
        · subst h2
          have h0 : ¬ k < 0 := by omega
          simp [h0, fnM0, fnM, sSeq, sIf, e2, bnm, lenS, isScr, R.bind, R.of, R.out, ltD, h1, sRet, ixS, sNil, nilS, cst]
        · have hpos : (0 : Int) < ns.length := by
            have : 0 < ns.length := List.length_pos_iff.mpr h2
            omega
          obtain ⟨n, hn⟩ := key (k % ns.length) (Int.emod_nonneg _ (by omega)) (Int.emod_lt_of_pos _ hpos)
          have h3 : (0 : Int) < (ns.length : Int) := hpos
          simp [fnM0, fnM, sSeq, sIf, e2, bnm, lenS, isScr, R.bind, R.of, R.out, ltD, h1, sRet, ixS, sNil, nilS, cst, h2, modD, mulD, addD, hn]
          rw [if_pos (List.length_pos_iff.mpr h2)]
          simp [hn]
    · exact absurd rfl hb
  · exact absurd rfl hb
def pickB (f : List D → Out) : Rho → Out := sSeq (sSet 3 (nD (e2 modD (e2 mulD (e2 addD (call f (cons' (nm 0) (cons' (nm 1) (cst [])))) (e2 mulD (cst (.int 6151)) (e2 addD (bnm 1) (cst (.int 1))))) (cst (.int 40692))) (cst (.int 2147483399)))))
  (sRet (e2 modD (e2 modD (e2 addD (e2 mulD (bnm 3) (bnm 3)) (e2 fdivD (bnm 3) (cst (.int 31)))) (cst (.int 2147483629))) (bnm 2)))
theorem pick_mir (ns : List Int) : ∀ ds, pickF (pick ns) ds ≠ .bad → fnM0 3 4 (pickB (cellF (cell ns))) ds = pickF (pick ns) ds := by
  intro ds hb
  unfold pickF at hb ⊢
  split at hb
  · rename_i k m
    split at hb
    · rename_i hk
      rw [if_pos hk]
      have hd : ∀ x : Int, (-18446744073709551616 < x % 2147483399 ∧ x % 2147483399 < 18446744073709551616) := fun x => by
        have h1 := Int.emod_nonneg x (show (2147483399 : Int) ≠ 0 by decide)
        have h2 := Int.emod_lt_of_pos x (show (0 : Int) < 2147483399 by decide)
        omega
      have hz := hd ((cell ns k + 6151 * (k + 1)) * 40692)
      simp [pickB, fnM0, fnM, sSeq, sSet, nD, e2, bnm, nm, R.bind, R.of, R.out, sRet, cst, modD, mulD, addD, fdivD, call, cons', cellF, hk.1, hk.2, Out.r, pick, hz]
    · exact absurd rfl hb
  · exact absurd rfl hb
end M

namespace M
open PySem
/-! ### plain facts about the mirrors' words -/
theorem eqvAll_ints : ∀ xs ys : List Int, PyData.eqvAll (xs.map .int) (ys.map .int) = decide (xs = ys)
  | [], [] => by simp [PyData.eqvAll]
  | [], y :: ys => by simp [PyData.eqvAll]
  | x :: xs, [] => by simp [PyData.eqvAll]
  | x :: xs, y :: ys => by
    simp only [List.map_cons, PyData.eqvAll, PyData.eqv, eqvAll_ints xs ys, List.cons.injEq, Bool.decide_and]
    congr 1
theorem eqD_ints (xs ys : List Int) : eqD (.list (xs.map .int)) (.list (ys.map .int)) = some (decide (xs = ys)) := by
  unfold eqD
  rw [shaped_ints, shaped_ints, if_pos (by rfl)]
  simp only [PyData.eqv, eqvAll_ints]
theorem eqD_tints (xs ys : List Int) : eqD (.tuple (xs.map .int)) (.tuple (ys.map .int)) = some (decide (xs = ys)) := by
  unfold eqD
  rw [shaped_tints, shaped_tints, if_pos (by rfl)]
  simp only [PyData.eqv, eqvAll_ints]
theorem neD_ints (xs ys : List Int) : neD (.list (xs.map .int)) (.list (ys.map .int)) = some (!decide (xs = ys)) := by
  unfold neD
  rw [shaped_ints, shaped_ints, if_pos (by rfl)]
  simp only [PyData.eqv, eqvAll_ints]
theorem neD_tints (xs ys : List Int) : neD (.tuple (xs.map .int)) (.tuple (ys.map .int)) = some (!decide (xs = ys)) := by
  unfold neD
  rw [shaped_tints, shaped_tints, if_pos (by rfl)]
  simp only [PyData.eqv, eqvAll_ints]
theorem shaped_int (i : Int) : SeqAt.shaped (.int i) = true := by simp [SeqAt.shaped, PyData.canLay0, PyData.depth]
theorem shaped_none : SeqAt.shaped .none = true := by simp [SeqAt.shaped, PyData.canLay0, PyData.depth]
theorem shaped_bool (b : Bool) : SeqAt.shaped (.bool b) = true := by simp [SeqAt.shaped, PyData.canLay0, PyData.depth]
theorem shaped_nil : SeqAt.shaped (.list []) = true := shaped_ints []
theorem shaped_tnil : SeqAt.shaped (.tuple []) = true := shaped_tints []
theorem eqD_int (i j : Int) : eqD (.int i) (.int j) = some (decide (i = j)) := by
  unfold eqD
  rw [shaped_int, shaped_int, if_pos (by rfl)]
  simp only [PyData.eqv]
  congr 1
theorem neD_int (i j : Int) : neD (.int i) (.int j) = some (!decide (i = j)) := by
  unfold neD
  rw [shaped_int, shaped_int, if_pos (by rfl)]
  simp only [PyData.eqv]
  congr 1
theorem neD_nil (xs : List Int) : neD (.list (xs.map .int)) (.list []) = some (!decide (xs = [])) := neD_ints xs []
theorem eqD_nil (xs : List Int) : eqD (.list (xs.map .int)) (.list []) = some (decide (xs = [])) := eqD_ints xs []
/-- None or a number -/
def optD : Option Int → D
  | none => .none
  | some i => .int i
theorem shaped_opt (o : Option Int) : SeqAt.shaped (optD o) = true := by
  cases o
  · exact shaped_none
  · exact shaped_int _
theorem neD_opt (a b : Option Int) : neD (optD a) (optD b) = some (!decide (a = b)) := by
  unfold neD
  rw [shaped_opt, shaped_opt, if_pos (by rfl)]
  cases a <;> cases b <;> simp [optD, PyData.eqv]
  congr 1
theorem eqD_opt (a b : Option Int) : eqD (optD a) (optD b) = some (decide (a = b)) := by
  unfold eqD
  rw [shaped_opt, shaped_opt, if_pos (by rfl)]
  cases a <;> cases b <;> simp [optD, PyData.eqv]
  congr 1
/-- a comprehension whose turns are known -/
theorem lcL_map {α : Type} {b : D → Rho → Option Rho} {t : Rho → R Bool} {f : Rho → R D} {ρ : Rho} (d : α → D) (β : α → Rho) (T : α → Bool) (F : α → D) :
    ∀ xs : List α, (∀ x ∈ xs, b (d x) ρ = some (β x) ∧ t (β x) = .ok (T x) ∧ (T x = true → f (β x) = .ok (F x))) → lcL b t f ρ (xs.map d) = some ((xs.filter T).map F)
  | [], _ => rfl
  | x :: xs, h => by
    obtain ⟨h1, h2, h3⟩ := h x (by simp)
    have ih := lcL_map d β T F xs fun y hy => h y (by simp [hy])
    rw [List.map_cons]
    unfold lcL
    rw [h1]
    dsimp only
    rw [h2]
    cases hT : T x with
    | true => simp [h3 hT, ih, hT]
    | false => simp [ih, hT]
theorem rng_map (lo : Int) (n : Nat) : rng lo n = ((List.range n).map fun (i : Nat) => lo + (i : Int)).map .int := by
  unfold rng
  rw [List.map_map]
  rfl
theorem rgv_map (a b : Int) : rgv a b = ((List.range (b - a).toNat).map fun (i : Nat) => a + (i : Int)).map .int := by
  unfold rgv
  rw [List.map_map]
  rfl
end M
namespace M
section
variable {b : D → Rho → Option Rho} {body : Rho → Out} {x : D} {xs : List D} {ρ ρ1 ρ2 : Rho}
theorem forL_nx (h1 : b x ρ = some ρ1) (h2 : body ρ1 = .nx ρ2) : forL b body (x :: xs) ρ = forL b body xs ρ2 := by
  rw [forL, h1]
  dsimp only
  rw [h2]
theorem forL_ct (h1 : b x ρ = some ρ1) (h2 : body ρ1 = .ct ρ2) : forL b body (x :: xs) ρ = forL b body xs ρ2 := by
  rw [forL, h1]
  dsimp only
  rw [h2]
theorem forL_bk (h1 : b x ρ = some ρ1) (h2 : body ρ1 = .bk ρ2) : forL b body (x :: xs) ρ = .nx ρ2 := by
  rw [forL, h1]
  dsimp only
  rw [h2]
theorem forL_rt {d : D} (h1 : b x ρ = some ρ1) (h2 : body ρ1 = .rt d) : forL b body (x :: xs) ρ = .rt d := by
  rw [forL, h1]
  dsimp only
  rw [h2]
theorem forL_nil : forL b body [] ρ = .nx ρ := rfl
end
/-- a loop by an invariant: st i is the state ahead of turn i -/
theorem forL_inv {b : D → Rho → Option Rho} {body : Rho → Out} {xs : List D} (st : Nat → Rho → Prop) (hs : ∀ (i : Nat) (x : D) (ρ : Rho), xs[i]? = some x → st i ρ → ∃ ρ1 ρ2, b x ρ = some ρ1 ∧ body ρ1 = .nx ρ2 ∧ st (i + 1) ρ2) :
    ∀ ρ, st 0 ρ → ∃ ρ', forL b body xs ρ = .nx ρ' ∧ st xs.length ρ' := by
  induction xs generalizing st with
  | nil => exact fun ρ h => ⟨ρ, rfl, h⟩
  | cons x xs ih =>
    intro ρ h
    obtain ⟨ρ1, ρ2, h1, h2, h3⟩ := hs 0 x ρ rfl h
    obtain ⟨ρ', e, h4⟩ := ih (fun i => st (i + 1)) (fun i y ρ hy hst => hs (i + 1) y ρ (by simpa using hy) hst) ρ2 h3
    exact ⟨ρ', by rw [forL_nx h1 h2]; exact e, h4⟩
end M
namespace M
theorem lcL_all {α : Type} {b : D → Rho → Option Rho} {f : Rho → R D} {ρ : Rho} (d : α → D) (β : α → Rho) (F : α → D) (xs : List α)
    (h : ∀ x ∈ xs, b (d x) ρ = some (β x) ∧ f (β x) = .ok (F x)) : lcL b yes f ρ (xs.map d) = some (xs.map F) := by
  rw [lcL_map d β (fun _ => true) F xs fun x hx => ⟨(h x hx).1, rfl, fun _ => (h x hx).2⟩, List.filter_eq_self.mpr fun _ _ => rfl]
end M
namespace M
theorem seq_nx {f g : Rho → Out} {ρ ρ' : Rho} (h : f ρ = .nx ρ') : sSeq f g ρ = g ρ' := by unfold sSeq; rw [h]
theorem seq_rt {f g : Rho → Out} {ρ : Rho} {d : D} (h : f ρ = .rt d) : sSeq f g ρ = .rt d := by unfold sSeq; rw [h]
theorem seq_rf {f g : Rho → Out} {ρ : Rho} {d : List D} (h : f ρ = .rf d) : sSeq f g ρ = .rf d := by unfold sSeq; rw [h]
theorem seq_if_true {t : Rho → R Bool} {f g h : Rho → Out} {ρ : Rho} {o : Out} (e : t ρ = .ok true) (e' : f ρ = o) (ho : sSeq (fun _ => o) h ρ = o) : sSeq (sIf t f g) h ρ = o := by
  unfold sSeq sIf at *
  rw [e]
  show (match f ρ with | _ => _) = _
  rw [e']
  exact ho
theorem fn_rt {ar n : Nat} {body : Rho → Out} {ds : List D} {x : D} (hl : ds.length = ar) (h : body (ds.map .d ++ List.replicate (n - ds.length) .no) = .rt x) : fnM0 ar n body ds = .rt x := by
  unfold fnM0 fnM
  rw [if_pos hl, h]
theorem fn_rf {ar n : Nat} {body : Rho → Out} {ds : List D} {x : List D} (hl : ds.length = ar) (h : body (ds.map .d ++ List.replicate (n - ds.length) .no) = .rf x) : fnM0 ar n body ds = .rf x := by
  unfold fnM0 fnM
  rw [if_pos hl, h]
theorem fn_nx {ar n : Nat} {body : Rho → Out} {ds : List D} {ρ : Rho} (hl : ds.length = ar) (h : body (ds.map .d ++ List.replicate (n - ds.length) .no) = .nx ρ) : fnM0 ar n body ds = .rt .none := by
  unfold fnM0 fnM
  rw [if_pos hl, h]
/-- a script's draws -/
structure Dr (P : Int → Int → Int) : Prop where
  lo : ∀ k m : Int, 0 < m → 0 ≤ P k m
  hi : ∀ k m : Int, 0 < m → P k m < m
theorem dr_pick (ns : List Int) : Dr (pick ns) := ⟨fun _ _ h => pick_lo h, fun _ _ h => pick_hi h⟩
end M
namespace M
theorem lenD_list (xs : List D) : lenD [.list xs] = some (.int xs.length) := rfl
theorem lenD_tuple (xs : List D) : lenD [.tuple xs] = some (.int xs.length) := rfl
end M

namespace Mset
open PySem PySem.Spec PyProof.Rows L2
/-! ### set(xs) of a list of ints -/
abbrev nset (w : World) : Obj := { cls := .type "set", dict := none, data := .set #[] 0 (.fresh 0 0 (!w.params.followText "set-order")) }
section
variable {P : Program} {w : World} {A : Around} {E : Value → Shared → Prop} {s : Shared}
/-- behind set.__init__ of a list -/
def Behind (w : World) (s : Shared) (ns : List Int) (r : Value) (t : Shared) : Prop := r = .none ∧ ∃ h' tk c, t = { s with heap := h', toks := tk } ∧ SetR w h' s.heap.objs.size (fun j => decide (j ∈ ns)) c ∧ c ≤ ns.length ∧ ∀ b o, s.heap.get? b = some o → h'.get? b = some o
theorem at_int {its : Array Value} {ns : List Int} (hi : IntsAre its.toList ns) (hz : its.size = ns.length) (i : Nat) (v : Value) (hv : its[i]? = some v) : ∃ k t, ns[i]? = some k ∧ v = .int k t := by
  have hl : i < ns.length := hz ▸ (Array.getElem?_eq_some_iff.mp hv).1
  obtain ⟨t, e⟩ := IntsAre.int_at hi i v ((Array.getElem?_toList ..).trans hv)
  exact ⟨ns[i], t, List.getElem?_eq_getElem hl, by rw [e, List.getD_eq_getElem?_getD, List.getElem?_eq_getElem hl] <;> rfl⟩
set_option maxRecDepth 100000 in
set_option maxHeartbeats 3200000 in
theorem of_list {l : Addr} {its : Array Value} (ns : List Int) {Q : Value → Shared → Prop} (hd : A.handled = none) (pl : s.heap.IsList l its) (hi : IntsAre its.toList ns) (hb : ns.length + 1 < scanBound)
    (k : ∀ (h' : Heap) (tk c : Nat), SetR w h' s.heap.objs.size (fun j => decide (j ∈ ns)) c → c ≤ ns.length → (∀ b o, s.heap.get? b = some o → h'.get? b = some o) → Q (.ref s.heap.objs.size) { s with heap := h', toks := tk }) :
    wpAny (model P w) A (call (.type "set") [.ref l]) Q E s := by
  have hz : its.size = ns.length := by have := IntsAre.length hi; rwa [Array.length_toList] at this
  obtain ⟨_, _, hmro⟩ := F.called_set.mro
  have i1 := F.called_set.made; have i2 := F.called_set.sub
  refine wpAny_call (codeAny_of_tree (?_ : wpAny _ _ (callAny (.type "set") _) _ _ _))
  refine wpAny_pure ⟨Code.quiet_builtin _ (by decide +kernel), codeAny_builtin F.entry_type_call ?_⟩
  rw [Around.under_plain (weight_type_call_type "set" [.ref l] []) rfl]
  have i3 := F.called_set.notType; have i4 := F.called_set.canCreate; have i5 := F.typeCall_set_1 (.ref l)
  repeat (any_goals (first | assumption | wp_step))
  refine codeAny_mono (code_set_led1 (.ref l) (E := E) (Q₁ := fun obj t => obj = .ref s.heap.objs.size ∧ t = { s with heap := s.heap.push (nset w) }) ⟨rfl, rfl⟩) fun r t ht => ?_
  match r, ht with
  | .error _, ht => exact ht
  | .ok .next, ht => exact ht.elim
  | .ok .brk, ht => exact ht.elim
  | .ok .cont, ht => exact ht.elim
  | .ok (.ret _), ⟨e1, e2⟩ =>
    subst e1 e2
    have hS : (s.heap.push (nset w)).get? s.heap.objs.size = some (nset w) := Heap.get?_push_size _ rfl
    have hT : Shared.TypeIs { s with heap := s.heap.push (nset w) } (.ref s.heap.objs.size) "set" := ⟨_, hS, rfl⟩
    have j1 := F.called_set.init.lookup; have j2 := F.called_set.init.bind (.ref s.heap.objs.size)
    repeat (any_goals (first | assumption | wp_step))
    refine codeAny_mono (codeAny_call_builtin (R := wants (Behind w s ns) E) F.called_set.init.plain F.entry_set_init (check_set_init_1 hT ?_)) fun r₂ t₂ h₂ => ?_
    · obtain ⟨⟨oc, od, odt, osl⟩, ho, hc, n, hdt⟩ := pl
      dsimp only at hc hdt
      subst hc hdt
      have ho' : (s.heap.push (nset w)).get? l = some { cls := .type "list", dict := od, data := .seq its n, slots := osl } := Heap.get?_push_of_some _ ho
      have m1 := F.sub_list_set; have m2 := F.sub_list_frozenset
      have m3 : (Value.type "list" == Value.type "dict") = false := by decide
      have pl' : (s.heap.push (nset w)).IsList l its := ⟨_, ho', rfl, n, rfl⟩
      unfold Builtin.«set.__init__» noKeywords Builtin.Frozenset.updateFrom
      generalize hPI : pyIter = PI
      wp_walk
      subst hPI
      refine wpAny_pyIter_list pl' (wpAny_bind (wpAny_runValue ?_))
      have lt : l < s.heap.objs.size := Heap.lt_size ho
      have ne : l ≠ (s.heap.push (nset w)).objs.size := (Heap.size_push s.heap (nset w)) ▸ Nat.ne_of_lt (Nat.lt_succ_of_lt lt)
      have nf : s.heap.objs.size ∉ [(s.heap.push (nset w)).objs.size, l] := by
        rw [Heap.size_push, List.mem_cons, List.mem_singleton]
        exact fun z => z.elim (Nat.ne_of_lt (Nat.lt_succ_self _)) (Nat.ne_of_gt lt)
      refine set_update_ints ((Walks.list (show A.in1.in1.in1.handled = none by simp [hd]) _ l ne its).toS) s.heap.objs.size nf ns hz hb (at_int hi hz) (its.size - 0) 0 _ (by omega) (Nat.zero_le _) ⟨⟨_, Heap.get?_push_size _ rfl, rfl, rfl⟩, pl'.push _⟩
        ⟨0, Nat.le_refl 0, setR_new_at (Heap.get?_push_of_some _ hS)⟩ fun t' c' hm hc' hS' => ?_
      obtain ⟨h', g2, d', tk', os'⟩ := t'
      obtain rfl : g2 = s.gens := hm.gens
      obtain rfl : d' = s.drawn := hm.drawn
      obtain rfl : os' = s.os := hm.os
      refine wpAny_pure (wpAny_pure ⟨rfl, h', tk', c', rfl, hS', hz ▸ hc', fun b o e => hm.heap b o ?_ (Heap.get?_push_of_some _ (Heap.get?_push_of_some _ e))⟩)
      have lb := Heap.lt_size e
      rw [List.mem_cons, List.mem_singleton, Heap.size_push]
      exact fun z => z.elim (Nat.ne_of_lt lb) (Nat.ne_of_lt (Nat.lt_succ_of_lt lb))
    · match r₂, h₂ with
      | .error _, h₂ => exact h₂
      | .ok .next, h₂ => exact h₂.elim
      | .ok .brk, h₂ => exact h₂.elim
      | .ok .cont, h₂ => exact h₂.elim
      | .ok (.ret _), ⟨e3, h', tk, c', e4, q1, q2, q3⟩ =>
        subst e3 e4
        repeat (any_goals (first | assumption | wp_step))
        exact k _ _ _ q1 q2 q3
end
end Mset
namespace Mset
open PySem PySem.Spec PyProof.Rows L2
def uniq : List Int → List Int
  | [] => []
  | x :: r => if x ∈ r then uniq r else x :: uniq r
theorem mem_uniq {x : Int} : ∀ {l : List Int}, x ∈ uniq l ↔ x ∈ l
  | [] => Iff.rfl
  | y :: r => by
    unfold uniq
    split
    · rename_i h
      rw [mem_uniq, List.mem_cons]
      exact ⟨.inr, fun z => z.elim (fun e => e ▸ h) id⟩
    · rw [List.mem_cons, List.mem_cons, mem_uniq]
theorem uniq_nodup : ∀ l : List Int, (uniq l).Nodup
  | [] => .nil
  | y :: r => by
    unfold uniq
    split
    · exact uniq_nodup r
    · rename_i h
      exact List.nodup_cons.mpr ⟨fun z => h (mem_uniq.mp z), uniq_nodup r⟩
theorem uniq_len : ∀ l : List Int, (uniq l).length ≤ l.length
  | [] => Nat.le_refl _
  | y :: r => by
    unfold uniq
    have := uniq_len r
    split <;> simp <;> omega
/-- the ints that are read at an address: a list's or a tuple's -/
def IntsAt (K : PySem.W.Frag) (H : Hp) (l : Addr) (ns : List Int) : Prop := SqL K H l (ns.map V.int) ∨ SqT K H l (ns.map V.int)
section
variable {X : Cx} {pins : List (Addr × Obj)} {σ : L2.St} {H : Hp} {s : Shared}
theorem made {l : Addr} {ns : List Int} {Q : Value → Shared → Prop} {E : Value → Shared → Prop} (hc : X.calm = true) (I : Inv X pins σ H s) (h : IntsAt X.K H l ns) (hb : ns.length ≤ 4000)
    (k : ∀ (h' : Heap) (tk n : Nat), SetR X.w h' s.heap.objs.size (fun j => decide (j ∈ ns)) n → n ≤ ns.length → (∀ b o, s.heap.get? b = some o → h'.get? b = some o) → Q (.ref s.heap.objs.size) { s with heap := h', toks := tk }) :
    wpAny (model X.prog X.w) X.A (call (.type "set") [.ref l]) Q E s := by
  have hs : ns.length + 1 < scanBound := by unfold scanBound; omega
  rcases h with h | h
  · obtain ⟨its, r, pl, _⟩ := I.list h
    exact of_list ns (I.ok.hd hc) pl.isList (by simpa using r.ints) hs k
  · obtain ⟨its, r, pl, _⟩ := I.tuple h
    exact call_set_tupI ns (I.ok.hd hc) (show s.heap.IsTuple l its.toArray from pl) (by simpa using r.ints) hs k
variable {a : Expr} {ta : TE} {p p2 q pos : Pos}
def tSortSet (K : PySem.W.Frag) (ta : TE) : TE := fun σ H Q => ta σ H fun x H1 => ∃ l ns, x = .ref l ∧ IntsAt K H1 l ns ∧ ns.length < 64 ∧ ∀ (ns' : List Int) (p : Addr), ns'.Pairwise (· < ·) → (∀ j : Int, j ∈ ns' ↔ j ∈ ns) → H1 p = none → Q (.ref p) (upd H1 p (.lst (ns'.map V.int)))
theorem pe_sortSet (hc : X.calm = true) (hg : Gl X "sorted") (hm : X.mg "sorted" = none) (hv : bootBuiltins "sorted" = some (.builtin "sorted")) (hg2 : Gl X "set") (hm2 : X.mg "set" = none) (ha : PE X a ta)
    (na : starEach [a] X.env = (false, eval a X.env) :: starEach [] X.env := by rfl) : PE X (.Call (.Name "sorted" p) [.Call (.Name "set" p2) [a] [] q] [] pos) (tSortSet X.K ta) := by
  refine ⟨fun pins s σ H Q I h => Call_ (ld_blt I hg hm hv (PyProof.Rows.callWith_builtin1 (PyProof.Rows.args_cons ?_ rfl) rfl rfl))⟩
  refine Call_ (ld_blt I hg2 hm2 boot_set (PyProof.Rows.callWith_type1 (PyProof.Rows.args_cons (thn (ha.run pins s σ H _ I h) fun v s1 ⟨x, H1, I1, r1, q1⟩ => PyProof.Rows.args_nil ?_) na) na rfl))
  obtain ⟨l, ns, rfl, hi, hl, q1⟩ := q1
  cases r1
  refine made hc I1 hi (by omega) fun h' tk n R hn hk => PyProof.Rows.args_nil ?_
  have I2 : Inv X pins σ H1 { s1 with heap := h', toks := tk } := I1.kept hk
  refine sorted_set R (I2.ok.hd hc) (by omega) fun s' p out c ns' k g o hp hgt hint hs hmem hlen => ?_
  have hz : (ns'.map V.int).length ≤ sizeLine := by rw [List.length_map, hlen, sizeLine_eq]; omega
  have J : Inv X pins σ (upd H1 p (.lst (ns'.map V.int))) s' := I2.call' (ch := []) o (Un.laid k hp (I2.hok.fresh hp)) (I2.hok.laid k hp ⟨hz, out.toList, c, vals_of_ints hint, hgt⟩) (by rw [g]; exact I2.bare) (fun _ z => nomatch z)
  exact ⟨.ref p, _, J, rfl, q1 ns' p hs (fun j => by rw [hmem j, decide_eq_true_iff]) (I2.hok.fresh hp)⟩
def tLenSet (K : PySem.W.Frag) (ta : TE) : TE := fun σ H Q => ta σ H fun x H1 => ∃ l ns, x = .ref l ∧ IntsAt K H1 l ns ∧ ns.length ≤ 4000 ∧ Q (.int (uniq ns).length) H1
theorem pe_lenSet (hc : X.calm = true) (hg : Gl X "len") (hm : X.mg "len" = none) (hg2 : Gl X "set") (hm2 : X.mg "set" = none) (ha : PE X a ta)
    (na : starEach [a] X.env = (false, eval a X.env) :: starEach [] X.env := by rfl) : PE X (.Call (.Name "len" p) [.Call (.Name "set" p2) [a] [] q] [] pos) (tLenSet X.K ta) := by
  refine ⟨fun pins s σ H Q I h => Call_ (ld_blt I hg hm boot_len (PyProof.Rows.callWith_builtin1 (PyProof.Rows.args_cons ?_ rfl) rfl rfl))⟩
  refine Call_ (ld_blt I hg2 hm2 boot_set (PyProof.Rows.callWith_type1 (PyProof.Rows.args_cons (thn (ha.run pins s σ H _ I h) fun v s1 ⟨x, H1, I1, r1, q1⟩ => PyProof.Rows.args_nil ?_) na) na rfl))
  obtain ⟨l, ns, rfl, hi, hl, q1⟩ := q1
  cases r1
  refine made hc I1 hi hl fun h' tk n R hn hk => PyProof.Rows.args_nil ?_
  have I2 : Inv X pins σ H1 { s1 with heap := h', toks := tk } := I1.kept hk
  obtain ⟨o, es, ep, t, ho, hex, hdt, g, nd, hmem, hb, hf, hsz, hr, hl2⟩ := R
  have hcount : n = (uniq ns).length := by
    have pm : (es.toList.map keyOf).Perm (uniq ns) := (List.perm_ext_iff_of_nodup nd (uniq_nodup ns)).mpr fun j => by
      rw [← hmem j, mem_uniq, decide_eq_true_iff]
    rw [← pm.length_eq, List.length_map, Array.length_toList]
    exact hsz.symm
  refine call_len_set ho hex hdt hf (by rw [hsz]; omega) ⟨.int (uniq ns).length, H1, I2.tok _, ⟨_, by rw [hsz, hcount]⟩, q1⟩
end
end Mset
namespace M
open PySem PySem.Spec PyProof.Rows L2
def itemsInt : D → Option (List Int)
  | .list xs => intsOf xs
  | .tuple xs => intsOf xs
  | _ => none
def sortSetD : D → Option D := fun d => match itemsInt d with
  | some is => if is.length < 64 then some (.list ((sortI (Mset.uniq is)).map .int)) else none
  | none => none
def lenSetD : D → Option D := fun d => match itemsInt d with
  | some is => if is.length ≤ 4000 then some (.int (Mset.uniq is).length) else none
  | none => none
theorem ints_at {K : PySem.W.Frag} {ns : Sc} {G H : Hp} {v : V} {d : D} {is : List Int} (s : Sub G H) (b : B K ns G H v d) (e : itemsInt d = some is) : ∃ l, v = .ref l ∧ Mset.IntsAt K H l is := by
  unfold itemsInt at e
  split at e
  · obtain rfl := ints_eq e
    obtain ⟨a, us, rfl, h1, q1⟩ := b.list s
    obtain rfl := q1.ints_inv
    exact ⟨a, rfl, .inl (SqL.of h1)⟩
  · obtain rfl := ints_eq e
    obtain ⟨a, us, rfl, h1, q1, _⟩ := b.tuple s
    obtain rfl := q1.ints_inv
    exact ⟨a, rfl, .inr h1⟩
  · cases e
theorem lt_le {l : List Int} (h : l.Pairwise (· < ·)) : l.Pairwise (· ≤ ·) := h.imp fun h => Int.le_of_lt h
theorem sortI_mem {x : Int} {l : List Int} : x ∈ sortI l ↔ x ∈ l := (sortI_perm l).mem_iff
theorem lt_nodup {l : List Int} (h : l.Pairwise (· < ·)) : l.Nodup := h.imp fun h => Int.ne_of_lt h
section
variable {X : Cx} {c : Cm} {W : WM} {a : Expr} {f : Rho → R D} {p p2 q pos : Pos}
theorem me_sortSet (hc : X.calm = true) (hg : Gl X "sorted") (hm : X.mg "sorted" = none) (hg2 : Gl X "set") (hm2 : X.mg "set" = none) (ha : MB X c W a f) (na : starEach [a] X.env = (false, eval a X.env) :: starEach [] X.env := by rfl) :
    ME X c W (.Call (.Name "sorted" p) [.Call (.Name "set" p2) [a] [] q] [] pos) (e1 sortSetD f) :=
  PE.imp (Mset.pe_sortSet hc hg hm bt_sorted hg2 hm2 ha na) fun σ H Qk ⟨G, ρ, ok, p⟩ => step ok p fun x G1 H1 v _ g1 r1 ok1 p1 => by
    unfold sortSetD at p1
    cases e : itemsInt x with
    | none => rw [e] at p1; exact p1.elim
    | some is =>
      rw [e] at p1
      dsimp only at p1
      by_cases hl : is.length < 64
      · rw [if_pos hl] at p1
        obtain ⟨l, rfl, hi⟩ := ints_at ok1.s r1 e
        refine ⟨l, is, rfl, hi, hl, fun ns' p hs hmem hp => ?_⟩
        have pm : ns'.Perm (sortI (Mset.uniq is)) := (List.perm_ext_iff_of_nodup (lt_nodup hs) ((sortI_perm _).nodup_iff.mpr (Mset.uniq_nodup is))).mpr fun j => by
          rw [hmem j, sortI_mem, Mset.mem_uniq]
        rw [sorted_uniq pm (lt_le hs) (sortI_sorted _)]
        exact newL ok1.s QA.ints rfl p1 p hp
      · rw [if_neg hl] at p1; exact p1.elim
theorem me_lenSet (hc : X.calm = true) (hg : Gl X "len") (hm : X.mg "len" = none) (hg2 : Gl X "set") (hm2 : X.mg "set" = none) (ha : MB X c W a f) (na : starEach [a] X.env = (false, eval a X.env) :: starEach [] X.env := by rfl) :
    ME X c W (.Call (.Name "len" p) [.Call (.Name "set" p2) [a] [] q] [] pos) (e1 lenSetD f) :=
  PE.imp (Mset.pe_lenSet hc hg hm hg2 hm2 ha na) fun σ H Qk ⟨G, ρ, ok, p⟩ => step ok p fun x G1 H1 v _ g1 r1 ok1 p1 => by
    unfold lenSetD at p1
    cases e : itemsInt x with
    | none => rw [e] at p1; exact p1.elim
    | some is =>
      rw [e] at p1
      dsimp only at p1
      by_cases hl : is.length ≤ 4000
      · rw [if_pos hl] at p1
        obtain ⟨l, rfl, hi⟩ := ints_at ok1.s r1 e
        exact ⟨l, is, rfl, hi, hl, p1 G1 H1 _ (Gr.refl ok1.s) (.int _)⟩
      · rw [if_neg hl] at p1; exact p1.elim
end
end M

namespace M
open PySem PySem.Spec PyProof.Rows L2
/-! ### enumerate(xs), a list -/
def enumD (xs : List D) : List D := xs.mapIdx fun i x => .tuple [.int (i : Nat), x]
theorem enum_get {xs : List D} {i : Nat} {d : D} (h : (enumD xs)[i]? = some d) : ∃ x, xs[i]? = some x ∧ d = .tuple [.int (i : Nat), x] := by
  unfold enumD at h
  rw [List.getElem?_mapIdx] at h
  cases e : xs[i]? with
  | none => rw [e] at h; cases h
  | some x =>
    rw [e] at h
    cases h
    exact ⟨x, rfl, rfl⟩
theorem it_enumL {K : PySem.W.Frag} {ns : Sc} {a : Addr} {us : List V} {xs : List D} : ItOk K ns (Ite K a) (fun G => G a = some (.lst us) ∧ QA K ns G us xs) (enumD xs) where
  mono := fun G G' s p => ⟨s _ _ p.1, QA.mono s _ _ p.2⟩
  go := fun G H i d p s e => by
    obtain ⟨x, e1, rfl⟩ := enum_get e
    obtain ⟨v, ev, q⟩ := p.2.get e1
    exact ⟨us, v, SqL.of (s _ _ p.1).1, ev⟩
  yld := fun G H i d x H' p s e y => by
    obtain ⟨T, v', rfl, hT, rfl, h1⟩ := y
    obtain ⟨x, e1, rfl⟩ := enum_get e
    obtain ⟨v, ev, q⟩ := p.2.get e1
    have z1 := h1 us (SqL.of (s _ _ p.1).1)
    rw [ev] at z1
    cases z1
    exact pair_new s hT (.int _) q
  stop := fun G H p s => ⟨us, SqL.of (s _ _ p.1).1, by rw [p.2.length]; simp [enumD]⟩
def enE (f : Rho → R D) : Rho → R (List D) := fun ρ => (f ρ).bind fun d => match d with
  | .list xs => .ok (enumD xs)
  | _ => .bad
section
variable {X : Cx} {c : Cm} {W : WM}
theorem mi_enum {a : Expr} {f : Rho → R D} {p pos tpos : Pos} {elts : List Expr} {kk : Nat} (hg : Gl X "enumerate") (hm : X.mg "enumerate" = none) (ha : ME X c W a f) (hs1 : starEach [a] X.env = (false, eval a X.env) :: starEach [] X.env := by rfl) (hs : starEach [a] X.env = [(false, eval a X.env)] := by rfl) :
    MI X c W (.Tuple elts kk tpos) (.Call (.Name "enumerate" p) [a] [] pos) (enE f) := PI.imp (pi_enum hg hm (pa_cons ha pa_nil hs1) hs) fun σ H Rk ⟨G, ρ, ok, p⟩ => stepI ok p fun d G1 H1 v e1 g1 r1 ok1 p1 => by
  cases d with
  | list xs =>
    cases r1 with
    | lst h1 h2 => exact ⟨_, _, rfl, SqL.of (ok1.s _ _ h1).1, p1 G1 H1 _ _ (Gr.refl ok1.s) it_enumL ⟨h1, h2⟩⟩
  | _ => exact p1.elim
/-! ### x or y, by truth -/
def truD : D → Option Bool
  | .none => some false
  | .bool b => some b
  | .int i => some (i != 0)
  | .list xs => some (!xs.isEmpty)
  | .tuple xs => some (!xs.isEmpty)
  | _ => none
theorem tru_of {K : PySem.W.Frag} {ns : Sc} {G H : Hp} {v : V} {d : D} {k : Bool} (s : Sub G H) (b : B K ns G H v d) (e : truD d = some k) : TruV K v H k := by
  cases d with
  | none => obtain rfl := b.none; cases e; rfl
  | bool x => obtain rfl := b.bool; cases e; rfl
  | int i => obtain rfl := b.int; cases e; rfl
  | list xs =>
    obtain ⟨a, us, rfl, h1, q⟩ := b.list s
    cases e
    refine .inl ⟨us, SqL.of h1, ?_⟩
    cases q <;> rfl
  | tuple xs =>
    obtain ⟨a, us, rfl, h1, q, _⟩ := b.tuple s
    cases e
    refine .inr (.inl ⟨us, h1, ?_⟩)
    cases q <;> rfl
  | _ => cases e
def orE (f g : Rho → R D) : Rho → R D := fun ρ => (f ρ).bind fun x => (R.of (truD x)).bind fun b => if b then .ok x else g ρ
theorem me_orT {a b : Expr} {rest : List Expr} {pos : Pos} {f g : Rho → R D} (ha : ME X c W a f) (hb : ME X c W (.BoolOp .Or (b :: rest) pos) g) : ME X c W (.BoolOp .Or (a :: b :: rest) pos) (orE f g) :=
  PE.imp (pe_orT ha hb) fun σ H Qk ⟨G, ρ, ok, p⟩ => step ok p fun x G1 H1 v _ g1 r1 ok1 p1 => by
    cases e : truD x with
    | none => rw [e] at p1; exact p1.elim
    | some k =>
      rw [e] at p1
      refine ⟨k, tru_of ok1.s (.inl r1) e, ?_⟩
      cases k with
      | true => exact p1 G1 H1 v (Gr.refl ok1.s) r1
      | false => exact post_same ok1 p1
end
end M

/-! the library's walks (WalksT) as turns of a loop -/
namespace IW
open PySem PySem.Spec PyProof.Rows L2
/-- cells that are new may turn -/
theorem new_fp {X : Cx} {pins : List (Addr × Obj)} {σ : L2.St} {H : Hp} {s : Shared} {fp : List Addr} (I : Inv X pins σ H s) (h : ∀ b ∈ fp, s.heap.objs.size ≤ b) : ∀ b ∈ fp, FpOk X pins H b :=
  fun b hb => I.fpOk (h b hb) (I.hok.fresh (h b hb))
/-- who hands out a new tuple at each turn, and walks: J is what is told of it -/
theorem turn {P : Program} {w : World} {K : PySem.W.Frag} {elts : List Expr} {kk : Nat} {tpos : Pos} {J : It} {fp : List Addr} {it : Addr} {tn : Nat → Heap → Prop} (mem : it ∈ fp)
    (obj : ∀ i h, tn i h → ∀ b ∈ fp, ∃ o, h.get? b = some o ∧ ∀ v, o.data ≠ .cell v)
    (keep : ∀ i h h', tn i h → (∀ b ∈ fp, ∀ o, h.get? b = some o → h'.get? b = some o) → tn i h')
    (self : ∀ (A : Around) (i : Nat) (s : Shared) (Q : Value → Shared → Prop) (E : Value → Shared → Prop), tn i s.heap → Q (.ref it) s → wpAny (model P w) A (pyIter (.ref it)) Q E s)
    (walk : ∀ (X : Cx), X.prog = P → X.w = w → X.K = K → X.calm = true → ∀ (i : Nat) (pins : List (Addr × Obj)) (s : Shared) (σ : L2.St) (H : Hp), Inv X pins σ H s → tn i s.heap → (J.go i H ∨ J.stop i H) →
      ∃ (fw wr : List Addr) (n : Nat) (Pt : Nat → Array Value → Prop) (St : Nat → Heap → Prop) (Mid : Nat → Addr → Heap → Prop), WalksT P w X.A it fw wr n Pt St Mid ∧ (∀ b ∈ wr, b ∈ fp) ∧ St i s.heap ∧
        (∀ h, St (i + 1) h → tn (i + 1) h) ∧ (J.go i H → i < n) ∧ (J.stop i H → i = n) ∧
        (J.go i H → ∀ vals, Pt i vals → ∃ vs : List V, vs.length ≤ sizeLine ∧ Vals vs vals.toList ∧ ∀ T, H T = none → J.yld i H (.ref T) (upd H T (.tup vs)))) :
    Turn P w K (.Tuple elts kk tpos) J fp it tn := by
  refine ⟨mem, obj, keep, fun X hP hw hK hc i pins s σ H E I hf st go => ?_, fun X hP hw hK hc i pins s σ H E I hf st en => ?_, self⟩
  · obtain ⟨fw, wr, n, Pt, St, Mid, W, sub, at0, nxt, lt, _, say⟩ := walk X hP hw hK hc i pins s σ H I st (.inl go)
    refine W.item i s _ E (lt go) at0 fun T vals h1 tk hv hT tup mid far => ⟨.ref T, rfl, W.go elts kk tpos i T _ _ E mid fun h2 at2 far2 => ?_⟩
    obtain ⟨vs, len, rv, y⟩ := say go vals hv
    obtain ⟨oT, eT, cT⟩ := tup
    have known : ObjOk X.prog X.w (upd H T (.tup vs)) h2 T (.tup vs) := ⟨len, vals.toList, rv, oT, far2 T oT (W.apart i T h1 mid) eT, cT⟩
    have all : ∀ b o, b ∉ fp → s.heap.get? b = some o → h2.get? b = some o := fun b o out e => far2 b o (fun z => out (sub b z)) (far b o (fun z => out (sub b z)) e)
    refine ⟨.ref T, upd H T (.tup vs), I.turnedNew (t' := tk) all hf hT known, rfl, y T (I.hok.fresh hT), nxt h2 at2, fun b hb => ?_⟩
    obtain ⟨o, e, _⟩ := obj i s.heap st b hb
    have old : b ≠ T := Nat.ne_of_lt (Nat.lt_of_lt_of_le (Heap.lt_size e) hT)
    exact (upd_ne old).trans (hf b hb).1
  · obtain ⟨fw, wr, n, Pt, St, Mid, W, sub, at0, _, _, eq, _⟩ := walk X hP hw hK hc i pins s σ H I st (.inr en)
    exact W.done s _ E (eq en ▸ at0) fun h' tk far => ⟨rfl, I.turnedL (t' := tk) (fun b o out e => far b o (fun z => out (sub b z)) e) hf⟩
/-- an iterator as it draws from place m on, at its end or behind it, too -/
theorem draws_from {prog : Program} {w : World} {A : Around} {it : Addr} {fp : List Addr} {n m : Nat} {P : Nat → Value → Prop} {St : Nat → Heap → Prop} (D : Draws prog w A it fp n P St)
    (en : ∀ (j : Nat) (s : Shared) (Q : Value → Shared → Prop) (E : Value → Shared → Prop), n ≤ j → St j s.heap → (∀ h' e, Heap.ExtBut it s.heap h' → (∃ o, h'.get? e = some o ∧ o.cls = .type "StopIteration") → E (.ref e) { s with heap := h' }) → wpAny (model prog w) A (Builtin.SmallTypes.nextOf (.ref it)) Q E s) :
    Draws prog w A it fp (max n m) P (fun j h => St j h ∧ (m ≤ n ∨ j = m)) := by
  refine ⟨fun j h st => D.live j h st.1, fun j h h' st k => ⟨D.frame j h h' st.1 k, st.2⟩, fun j s Q E lt st hQ => ?_, fun s Q E st hE => en _ s Q E (Nat.le_max_left ..) st.1 hE⟩
  exact D.item j s Q E (by have := st.2; omega) st.1 fun x h' tk px st' => hQ x h' tk px ⟨st', by have := st.2; omega⟩
theorem draws_tup {prog : Program} {w : World} {A : Around} (hh : A.handled = none) {it l : Addr} (hne : l ≠ it) (items : Array Value) (m : Nat) :
    Draws prog w A it [it, l] (max items.size m) (fun j v => items[j]? = some v) (fun j h => (h.IsTupleIter it l j ∧ h.IsTuple l items) ∧ (m ≤ items.size ∨ j = m)) :=
  draws_from (Draws.tuple hh it l hne items) fun j s Q E le st hE => PySem.wpAny_nextOf_tuple_end hh st.1 st.2 (Array.getElem?_eq_none le) hE
/-- enumerate(v) begins: its two new cells -/
theorem enum_new {v : Value} {o : Obj} {B : Heap → Prop} (b : Begins v o B) :
    Meets (Builtin.«enumerate.__new__» ⟨[.type "enumerate", v], []⟩) (fun _ R s => B s.heap ∧ R (.ok (.ret (.ref (s.heap.objs.size + 1))))
      { s with heap := (s.heap.push o).push { cls := .type "enumerate", data := .fields #[.none, .bool false, .ref s.heap.objs.size, rawInt 0, .none, .none] } }) :=
  .of_wp fun prog w A R s h => by
    have hsub := sub_enumerate
    obtain ⟨hp, g, d, tk, os⟩ := s
    rcases h with ⟨hb, h⟩
    rw [← Heap.size_push hp o] at h
    have come : ∀ {A' : Around} {E : Value → Shared → Prop} {Q : Value → Shared → Prop}, Q (.ref hp.objs.size) ⟨hp.push o, g, d, tk, os⟩ → wpAny (model prog w) A' (pyIter v) Q E ⟨hp, g, d, tk, os⟩ := fun q => b.iter prog w _ _ _ _ hb q
    wp_walk using come
    refine wpAny_stack_any fun st => wpAny_pure ?_
    split
    case h_1 =>
      rename_i c _ _ _ _ _
      rcases (c == Value.type "enumerate") <;> (wp_walk using come; exact ⟨_, rfl, h⟩)
    all_goals (wp_walk using come; exact ⟨_, rfl, h⟩)
theorem enum_call {prog : Program} {w : World} {A : Around} {E : Value → Shared → Prop} {s : Shared} {v : Value} {o : Obj} {B : Heap → Prop} {Q : Value → Shared → Prop} (b : Begins v o B) (hb : B s.heap)
    (h : ∀ h', IsEnum h' (s.heap.objs.size + 1) s.heap.objs.size 0 .none → h'.get? s.heap.objs.size = some o → (∀ c u, s.heap.get? c = some u → h'.get? c = some u) → Q (.ref (s.heap.objs.size + 1)) { s with heap := h' }) :
    wpAny (model prog w) A (call (.type "enumerate") [v]) Q E s := by
  have one := Heap.size_push s.heap o
  have en : IsEnum ((s.heap.push o).push { cls := .type "enumerate", data := .fields #[.none, .bool false, .ref s.heap.objs.size, rawInt 0, .none, .none] }) (s.heap.objs.size + 1) s.heap.objs.size 0 .none := one ▸ Heap.get?_push_size _ rfl
  exact callType_new F.called_enumerate (by decide) (F.typeCall_enumerate_1 v) (F.newCall_enumerate_1 v) (fun x => F.args_object_init_2 x v) F.entry_enumerate_new (enum_new b)
    ⟨hb, ⟨_, en, rfl⟩, h _ en (Heap.get?_push_of_some _ (Heap.get?_push_size _ b.free)) fun c u e => Heap.get?_push_of_some _ (Heap.get?_push_of_some _ e)⟩
end IW
namespace Men
open PySem PySem.Spec PyProof.Rows L2
/-- the tuple at a, each item in a new pair -/
def IteT (K : PySem.W.Frag) (a : Addr) : It :=
  ⟨fun i H => ∃ (xs : List V) (x : V), SqT K H a xs ∧ xs[i]? = some x, fun i H v H' => ∃ T x, v = .ref T ∧ H T = none ∧ H' = upd H T (.tup [.int (i : Nat), x]) ∧ ∀ xs, SqT K H a xs → xs[i]? = some x, fun i H => ∃ xs : List V, SqT K H a xs ∧ xs.length ≤ i⟩
theorem turn_enumT {P : Program} {w : World} {K : PySem.W.Frag} {elts : List Expr} {kk : Nat} {tpos : Pos} (a e it : Addr) (hai : a ≠ it) (hae : a ≠ e) :
    Turn P w K (.Tuple elts kk tpos) (IteT K a) [e, it] e (fun i h => (∃ old, IsEnum h e it ((i : Nat) : Int) old) ∧ h.IsTupleIter it a i ∧ e ≠ it) := by
  refine IW.turn (by simp) (fun i h st b hb => ?_) (fun i h h' st k => ?_) (fun A i s Q E st h => let ⟨⟨_, he⟩, _⟩ := st; wpAny_pyIter_enum he h) fun X hP hw hK hc i pins s σ H I st d => ?_
  · obtain ⟨⟨old, he⟩, ⟨o, ho, _, hd⟩, _⟩ := st
    simp only [List.mem_cons, List.not_mem_nil, or_false] at hb
    obtain rfl | rfl := hb
    · exact ⟨_, he, by simp⟩
    · exact ⟨o, ho, by simp [hd]⟩
  · obtain ⟨⟨old, he⟩, hi, ne⟩ := st
    exact ⟨⟨old, k e (by simp) _ he⟩, hi.at (k it (by simp)), ne⟩
  · subst hP hw hK
    obtain ⟨⟨old, he⟩, hi, ne⟩ := st
    obtain ⟨xs, hq⟩ : ∃ xs, SqT X.K H a xs := d.elim (fun ⟨xs, _, q, _⟩ => ⟨xs, q⟩) fun ⟨xs, q, _⟩ => ⟨xs, q⟩
    obtain ⟨its, rv, p, _⟩ := I.tuple hq
    have len := rv.length
    have same : ∀ {ys}, SqT X.K H a ys → ys = xs := fun q => I.tuple_inj q hq
    have D := IW.draws_tup (prog := X.prog) (w := X.w) (A := X.A.in1) (I.ok.hd hc) hai its.toArray i
    refine ⟨_, _, _, _, _, _, WalksT.enumFrom 0 D e ne (by simp [ne, hae.symm]) (by simp), by simp, ⟨⟨old, by rw [Int.zero_add]; exact he⟩, ⟨hi, p⟩, by omega⟩, fun h z => ?_, fun ⟨ys, y, q, ey⟩ => ?_, fun ⟨ys, q, le⟩ => ?_, fun ⟨ys, y, q, ey⟩ vals hv => ?_⟩
    · obtain ⟨⟨o2, z1⟩, z2, _⟩ := z
      exact ⟨⟨o2, by rw [Int.zero_add] at z1; exact z1⟩, z2.1, ne⟩
    · rw [same q] at ey
      have := (List.getElem?_eq_some_iff.mp ey).1
      simp only [List.size_toArray]
      omega
    · rw [same q] at le
      simp only [List.size_toArray]
      omega
    · rw [same q] at ey
      obtain ⟨u, eu, ru⟩ := rv.get ey
      obtain ⟨t, x, ex, rfl⟩ := hv
      rw [List.getElem?_toArray, eu] at ex
      cases ex
      refine ⟨[.int (i : Nat), y], by show 2 ≤ sizeLine; decide, .cons ⟨t, by rw [Int.zero_add]⟩ (.cons ru .nil), fun T hT => ⟨T, y, rfl, hT, rfl, fun zs qz => ?_⟩⟩
      rw [same qz]
      exact ey
def iEnumA (K : PySem.W.Frag) (ta : TA) : TI := fun σ H R => ta σ H fun vs H1 => ∃ a xs, vs = [.ref a] ∧ ((SqL K H1 a xs ∧ R (Ite K a) H1) ∨ (SqT K H1 a xs ∧ R (IteT K a) H1))
theorem pi_enumA {X : Cx} {e : Expr} {ta : TA} {p pos tpos : Pos} {elts : List Expr} {kk : Nat} (hg : Gl X "enumerate") (hm : X.mg "enumerate" = none) (ha : PA X [e] ta) (hs : starEach [e] X.env = [(false, eval e X.env)] := by rfl) :
    PI X (.Tuple elts kk tpos) (.Call (.Name "enumerate" p) [e] [] pos) (iEnumA X.K ta) := by
  constructor
  intro pins s σ H R I h
  refine Call_ (ld_blt I hg hm boot_enumerate (PyProof.Rows.callWith_type1 (thn (ha.run pos pins s σ H _ I h) fun us s1 r => ?_) hs rfl))
  obtain ⟨_, H1, J, rel, a, xs, rfl, d⟩ := r
  have hus : us = [.ref a] := by cases rel with | cons r0 r1 => cases r0; cases r1; rfl
  subst hus
  have come : ∀ {h' : Heap} {It : It} {tn : Nat → Heap → Prop}, IsEnum h' (s1.heap.objs.size + 1) s1.heap.objs.size 0 .none → (∀ b u, s1.heap.get? b = some u → h'.get? b = some u) →
      Turn X.prog X.w X.K (.Tuple elts kk tpos) It [s1.heap.objs.size + 1, s1.heap.objs.size] (s1.heap.objs.size + 1) tn → tn 0 h' → R It H1 →
      wpAny (model X.prog X.w) X.A (pyIter (.ref (s1.heap.objs.size + 1))) (PIE X pins σ (.Tuple elts kk tpos) R) X.xe { s1 with heap := h' } := fun he hk t t0 q =>
    wpAny_pyIter_enum he ⟨_, _, _, _, H1, rfl, J.kept (t' := s1.toks) hk, t, t0, IW.new_fp J (by simp), q⟩
  have ne1 : s1.heap.objs.size + 1 ≠ s1.heap.objs.size := Nat.succ_ne_self _
  obtain ⟨hq, q⟩ | ⟨hq, q⟩ := d
  · obtain ⟨its, _, at1, _⟩ := J.list hq
    exact call_enumerate_list at1.isList fun h' he hi _ hk => come he hk (turn_enum a _ _) ⟨⟨_, he⟩, hi, ne1⟩ q
  · obtain ⟨its, _, at1, _⟩ := J.tuple hq
    have lt : a < s1.heap.objs.size := let ⟨_, z, _⟩ := at1; Heap.lt_size z
    exact IW.enum_call (begins_tuple a its.toArray) at1 fun h' he hi hk => come he hk (turn_enumT a _ _ (Nat.ne_of_lt lt) (Nat.ne_of_lt (Nat.lt_succ_of_lt lt))) ⟨⟨_, he⟩, ⟨_, hi, rfl, rfl⟩, ne1⟩ q
end Men
namespace M
open PySem PySem.Spec PyProof.Rows L2
theorem it_enumT {K : PySem.W.Frag} {ns : Sc} {a : Addr} {us : List V} {xs : List D} : ItOk K ns (Men.IteT K a) (fun G => SqT K G a us ∧ QA K ns G us xs) (enumD xs) where
  mono := fun G G' s p => ⟨SqT.same s p.1, QA.mono s _ _ p.2⟩
  go := fun G H i d p s e => by
    obtain ⟨x, e1, rfl⟩ := enum_get e
    obtain ⟨v, ev, q⟩ := p.2.get e1
    exact ⟨us, v, SqT.same s.same p.1, ev⟩
  yld := fun G H i d x H' p s e y => by
    obtain ⟨T, v', rfl, hT, rfl, h1⟩ := y
    obtain ⟨x, e1, rfl⟩ := enum_get e
    obtain ⟨v, ev, q⟩ := p.2.get e1
    have z1 := h1 us (SqT.same s.same p.1)
    rw [ev] at z1
    cases z1
    exact pair_new s hT (.int _) q
  stop := fun G H p s => ⟨us, SqT.same s.same p.1, by rw [p.2.length]; simp [enumD]⟩
def enA (f : Rho → R D) : Rho → R (List D) := fun ρ => (f ρ).bind fun d => match d with
  | .list xs => .ok (enumD xs)
  | .tuple xs => .ok (enumD xs)
  | _ => .bad
section
variable {X : Cx} {c : Cm} {W : WM}
theorem mi_enumA {a : Expr} {f : Rho → R D} {p pos tpos : Pos} {elts : List Expr} {kk : Nat} (hg : Gl X "enumerate") (hm : X.mg "enumerate" = none) (ha : ME X c W a f) (hs1 : starEach [a] X.env = (false, eval a X.env) :: starEach [] X.env := by rfl) (hs : starEach [a] X.env = [(false, eval a X.env)] := by rfl) :
    MI X c W (.Tuple elts kk tpos) (.Call (.Name "enumerate" p) [a] [] pos) (enA f) := PI.imp (Men.pi_enumA hg hm (pa_cons ha pa_nil hs1) hs) fun σ H Rk ⟨G, ρ, ok, p⟩ => stepI ok p fun d G1 H1 v e1 g1 r1 ok1 p1 => by
  cases d with
  | list xs =>
    cases r1 with
    | lst h1 h2 => exact ⟨_, _, rfl, .inl ⟨SqL.of (ok1.s _ _ h1).1, p1 G1 H1 _ _ (Gr.refl ok1.s) it_enumL ⟨h1, h2⟩⟩⟩
  | tuple xs =>
    cases r1 with
    | tup h1 h2 => exact ⟨_, _, rfl, .inr ⟨SqT.same ok1.s.same h1, p1 G1 H1 _ _ (Gr.refl ok1.s) it_enumT ⟨h1, h2⟩⟩⟩
  | _ => exact p1.elim
end
end M

namespace Men
open PySem PySem.Spec PyProof.Rows L2 HT
section
variable {prog : Program} {w : World} {A : Around} {E : Value → Shared → Prop} {s : Shared}
theorem sliceApplied_rev {sl : Addr} {vl vu vs : Value} {n : Nat} {Q : Int × Int × Nat → Shared → Prop} (hs : s.heap.IsSliceOf sl vl vu vs) (pl : IsPart vl none) (pu : IsPart vu none) (ps : IsPart vs (some (-1)))
    (h : Q ((n : Int) - 1, -1, n) s) : wpAny (model prog w) A (Builtin.Slice.sliceApplied (.ref sl) (pure (n : Int))) Q E s := by
  obtain ⟨os, hos, hcs, hds⟩ := id hs
  unfold Builtin.Slice.sliceApplied Builtin.Slice.sliceFields
  refine wpAny_bind (wpAny_bind (wpAny_field hos hds (x := vl) rfl (wpAny_bind (wpAny_field hos hds (x := vu) rfl (wpAny_bind (wpAny_field hos hds (x := vs) rfl (wpAny_pure ?_)))))))
  refine wpAny_bind (slicePart_ ps ?_)
  show wpAny _ _ (if ((-1 : Int) == 0) = true then _ else _) _ _ s
  rw [if_neg (by decide)]
  refine wpAny_bind (slicePart_ pl (wpAny_bind (slicePart_ pu (wpAny_bind (wpAny_pure ?_)))))
  show wpAny _ _ (match Builtin.Slice.sliceAdjust none none (-1) (n : Int) with | (lo, hi) => pure (lo, (-1 : Int), Builtin.Slice.slicePlaces lo hi (-1))) _ _ s
  have e : Builtin.Slice.sliceAdjust none none (-1) (n : Int) = ((n : Int) - 1, -1) := rfl
  rw [e]
  have e2 : Builtin.Slice.slicePlaces ((n : Int) - 1) (-1) (-1) = n := by
    unfold Builtin.Slice.slicePlaces
    rw [if_neg (by decide)]
    by_cases c : (n : Int) - 1 > -1
    · rw [if_pos c, show (- -1 : Int) = 1 by decide, Int.ediv_one]
      omega
    · rw [if_neg c]
      omega
  show wpAny _ _ (pure ((n : Int) - 1, (-1 : Int), Builtin.Slice.slicePlaces ((n : Int) - 1) (-1) (-1))) _ _ s
  rw [e2]
  exact wpAny_pure h
theorem fm_congr {α β : Type} {f g : α → Option β} : ∀ l : List α, (∀ x ∈ l, f x = g x) → l.filterMap f = l.filterMap g
  | [], _ => rfl
  | x :: l, h => by
    rw [List.filterMap_cons, List.filterMap_cons, h x (by simp), fm_congr l fun y hy => h y (by simp [hy])]
theorem pick_rev (xs : Array Value) : ((List.range xs.size).filterMap fun (m : Nat) => xs[((xs.size : Int) - 1 + (m : Int) * -1).toNat]?).toArray = xs.toList.reverse.toArray := by
  have h := PySem.W.krv_pick xs
  unfold slicePick at h
  rw [PySem.W.krv_bounds] at h
  rw [← h]
  show _ = ((sliceRange ((xs.size : Int) - 1) (-1) (-1)).filterMap (xs[·]?)).toArray
  rw [PySem.W.krv_sliceRange, List.filterMap_map]
  congr 1
  refine fm_congr _ fun m hm => ?_
  have := List.mem_range.mp hm
  rw [show ((xs.size : Int) - 1 + (m : Int) * -1).toNat = xs.size - 1 - m by omega]
  rfl
/-- a slice of a tuple that goes backwards: a new tuple of what it picks -/
theorem tup_back {t sl : Addr} {items ys : Array Value} {vl vu vs : Value} {lo : Int} {n : Nat} {Q : Value → Shared → Prop} (ht : IsTup s.heap t items) (hs : s.heap.IsSliceOf sl vl vu vs)
    (app : ∀ {A : Around} {E : Value → Shared → Prop} {R : Int × Int × Nat → Shared → Prop}, R (lo, -1, n) s → wpAny (model prog w) A (Builtin.Slice.sliceApplied (.ref sl) (pure (items.size : Int))) R E s)
    (pick : ((List.range n).filterMap fun (m : Nat) => items[(lo + (m : Int) * -1).toNat]?).toArray = ys) (fit : ys.size ≤ sizeLine)
    (h : Q (.ref s.heap.objs.size) { s with heap := s.heap.push { cls := .type "tuple", data := .seq ys } }) : wpAny (model prog w) A (getItem (.ref t) (.ref sl)) Q E s := by
  subst pick
  have isSl : s.TypeIs (.ref sl) "slice" := let ⟨o, e, c, _⟩ := hs; ⟨o, e, c⟩
  have made : ∀ {A : Around}, wpAny (model prog w) A (Builtin.Tuple.tupleExact ((List.range n).filterMap fun (m : Nat) => items[(lo + (m : Int) * -1).toNat]?).toArray >>= fun v => ret v) (fun fin s' => ∃ v, fin = .done (.ret v) ∧ Q v s') E s :=
    wpAny_bind (wpAny_newObj_type (wpAny_pure ⟨_, rfl, h⟩) fit)
  refine wpAny_getItem_slot ht.typeIs (by decide) PyProof.Rows.slot_tuple_getitem (wpAny_call_entry PyProof.Rows.slot_tuple_getitem ht.typeIs entry_tuple_getitem ?_ (args_tuple_getitem _ _))
  refine wpAny_bind (m := Builtin.Tuple.tupleItemsOf (.ref t)) (tupleItemsOf_ ht (wpAny_bind (wpAny_typeOf isSl ?_)))
  rw [if_pos (by decide)]
  refine wpAny_bind (app ?_)
  have ne : (lo == 0 && (-1 : Int) == 1 && n == items.size) = false := by simp
  refine PySem.W.KFB.if_not ne ?_
  exact made
theorem getItem_tuple_rev {t sl : Addr} {items : Array Value} {vl vu vs : Value} {Q : Value → Shared → Prop} (ht : IsTup s.heap t items) (hs : s.heap.IsSliceOf sl vl vu vs) (pl : IsPart vl none) (pu : IsPart vu none) (ps : IsPart vs (some (-1)))
    (h : Q (.ref s.heap.objs.size) { s with heap := s.heap.push { cls := .type "tuple", data := .seq items.toList.reverse.toArray } })
    (hsz : items.size ≤ sizeLine) : wpAny (model prog w) A (getItem (.ref t) (.ref sl)) Q E s :=
  tup_back ht hs (fun q => sliceApplied_rev hs pl pu ps q) (pick_rev items) (by simpa using hsz) h
end
/-- a part of a slice whose worth is known ahead -/
def Kn (X : Cx) (e : Option Expr) (o : Option Int) : Prop := ∃ t : TO, PO X e t ∧ ∀ σ H (Q : Option Int → Hp → Prop), Q o H → t σ H Q
theorem kn_no {X : Cx} : Kn X none none := ⟨_, po_none, fun _ _ _ q => q⟩
theorem kn_int {X : Cx} {i : Int} {k : Nat} {p : Pos} : Kn X (some (.Constant (.int i) k p)) (some i) := ⟨_, po_some pe_int, fun _ _ _ q => ⟨i, rfl, q⟩⟩
theorem kn_neg {X : Cx} {i : Int} {k : Nat} {p1 p2 : Pos} : Kn X (some (.UnaryOp .USub (.Constant (.int i) k p1) p2)) (some (-i)) := ⟨_, po_some (pe_un un_neg pe_int), fun _ _ _ q => ⟨i, rfl, -i, rfl, q⟩⟩
/-- e[lo:hi:st], its parts known: what is left is the item itself -/
theorem pe_cut {X : Cx} {e : Expr} {lo hi st : Option Expr} {te : TE} {a b c : Option Int} {p3 pos : Pos} {W : V → Hp → VK → Prop} (he : PE X e te) (k1 : Kn X lo a) (k2 : Kn X hi b) (k3 : Kn X st c)
    (fin : ∀ (pins : List (Addr × Obj)) (s : Shared) (σ : L2.St) (H : Hp) (Q : VK) (x : V) (v : Value) (sl : Addr) (vl vu vs : Value), Inv X pins σ H s → RelV x v → s.heap.IsSliceOf sl vl vu vs → IsPart vl a → IsPart vu b → IsPart vs c → W x H Q →
      wpAny (model X.prog X.w) X.A (subscriptTail e (.Slice lo hi st p3) v (.ref sl)) (EP X pins σ Q) X.xe s) :
    PE X (.Subscript e (.Slice lo hi st p3) pos) (fun σ H Q => te σ H fun x H1 => W x H1 Q) := by
  obtain ⟨t1, r1, g1⟩ := k1
  obtain ⟨t2, r2, g2⟩ := k2
  obtain ⟨t3, r3, g3⟩ := k3
  constructor
  intro pins s σ H Q I h
  refine Subscript_ (thn (he.run pins s σ H _ I h) fun v s1 ⟨x, H1, I1, rel, wx⟩ => wpAny_Slice ?_)
  refine thn (r1.run pins s1 σ H1 (fun o G => o = a ∧ G = H1) I1 (g1 _ _ _ ⟨rfl, rfl⟩)) fun vl s2 ⟨_, _, I2, part1, ea, eh⟩ => ?_
  subst ea eh
  refine thn (r2.run pins s2 σ _ (fun o G => o = b ∧ G = _) I2 (g2 _ _ _ ⟨rfl, rfl⟩)) fun vu s3 ⟨_, _, I3, part2, ea, eh⟩ => ?_
  subst ea eh
  refine thn (r3.run pins s3 σ _ (fun o G => o = c ∧ G = _) I3 (g3 _ _ _ ⟨rfl, rfl⟩)) fun vs s4 ⟨_, _, I4, part3, ea, eh⟩ => ?_
  subst ea eh
  exact fin pins _ σ _ Q x v _ vl vu vs (I4.kept (t' := s4.toks) fun _ _ z => Heap.get?_push_of_some _ z) rel (Heap.IsSliceOf.new _ vl vu vs) part1 part2 part3 wx
section
variable {X : Cx} {pins : List (Addr × Obj)} {σ : L2.St} {H : Hp} {s : Shared}
/-- the item's object is laid -/
theorem cut_laid {Q : VK} {o : HO} {u : Obj} (I : Inv X pins σ H s) (new : ObjOk X.prog X.w (upd H s.heap.objs.size o) (s.heap.push u) s.heap.objs.size o) (q : ∀ p, H p = none → Q (.ref p) (upd H p o)) : EP X pins σ Q (.ref s.heap.objs.size) { s with heap := s.heap.push u } :=
  ⟨.ref _, _, I.laid (t' := s.toks) (fun _ _ z => Heap.get?_push_of_some _ z) (Nat.le_refl _) new, rfl, q _ (I.hok.fresh (Nat.le_refl _))⟩
def tRevA (K : PySem.W.Frag) (te : TE) : TE := fun σ H Q => te σ H fun x H1 => ∃ a xs, x = .ref a ∧ ((SqL K H1 a xs ∧ ∀ p, H1 p = none → Q (.ref p) (upd H1 p (.lst xs.reverse))) ∨ (SqT K H1 a xs ∧ ∀ p, H1 p = none → Q (.ref p) (upd H1 p (.tup xs.reverse))))
theorem pe_revA {e : Expr} {te : TE} {k : Nat} {p1 p2 p3 pos : Pos} (he : PE X e te) : PE X (.Subscript e (.Slice none none (some (.UnaryOp .USub (.Constant (.int 1) k p1) p2)) p3) pos) (tRevA X.K te) := by
  refine pe_cut (te := te) he kn_no kn_no kn_neg fun pins s σ H Q x v sl vl vu vs I rel hs part1 part2 part3 ⟨a, xs, ex, d⟩ => ?_
  subst ex
  cases rel
  obtain ⟨hx, q⟩ | ⟨hx, q⟩ := d
  · obtain ⟨its, rv, p, fit⟩ := I.list hx
    have len := rv.length
    refine tail_any (ops := [.ref a, .ref sl]) p.isList.typeIs (PySem.slot_list_getitem.lookup) (wpAny_getItem_list_slice p.isList hs part1 part2 part3 (by decide) ?_ (by rw [List.size_toArray]; omega)) (by with_unfolding_all rfl)
    refine cut_laid I (o := .lst xs.reverse) ⟨by simpa using fit, its.reverse, 0, rv.reverse, ?_⟩ q
    rw [PySem.W.krv_pick]
    exact Heap.get?_push_size _ rfl
  · obtain ⟨its, rv, p, fit⟩ := I.tuple hx
    have len := rv.length
    exact tail_any (ops := [.ref a, .ref sl]) p.typeIs (PyProof.Rows.slot_tuple_getitem.lookup) (getItem_tuple_rev p hs part1 part2 part3 (cut_laid I (o := .tup xs.reverse) ⟨by simpa using fit, _, rv.reverse, IsTup.new _ _⟩ q) (by rw [List.size_toArray]; omega)) (by with_unfolding_all rfl)
end
end Men
namespace M
open PySem PySem.Spec PyProof.Rows L2
def revA : D → Option D
  | .list xs => some (.list xs.reverse)
  | .tuple xs => some (.tuple xs.reverse)
  | _ => none
section
variable {X : Cx} {c : Cm} {W : WM}
theorem me_revA {e : Expr} {f : Rho → R D} {k : Nat} {p1 p2 p3 pos : Pos} (he : MB X c W e f) : ME X c W (.Subscript e (.Slice none none (some (.UnaryOp .USub (.Constant (.int 1) k p1) p2)) p3) pos) (e1 revA f) :=
  PE.imp (Men.pe_revA he) fun σ H Qk ⟨G, ρ, ok, p⟩ => step ok p fun x G1 H1 v _ g1 r1 ok1 p1 => by
    cases x with
    | list xs =>
      obtain ⟨a, us, rfl, h1, q1⟩ := r1.list ok1.s
      exact ⟨a, us, rfl, .inl ⟨SqL.of h1, newL ok1.s q1.rev rfl p1⟩⟩
    | tuple xs =>
      obtain ⟨a, us, rfl, h1, q1, h2⟩ := r1.tuple ok1.s
      exact ⟨a, us, rfl, .inr ⟨h1, newT ok1.s q1.rev rfl p1⟩⟩
    | _ => exact p1.elim
end
end M

namespace SrtO
open PySem PyProof.Rows Srt
section
variable {prog : Program} {w : World} {A : Around} {E : Value → Shared → Prop} {s : Shared}
theorem swo_code (B : Int) (k : Value → List Int) : Swo fun v u => decide (TS.code B (k v) < TS.code B (k u)) := by
  refine ⟨fun x y h => ?_, fun x y z h1 h2 => ?_⟩
  · have a := of_decide_eq_true h
    exact decide_eq_false (by omega)
  · have a := of_decide_eq_false h1
    have b := of_decide_eq_false h2
    exact decide_eq_false (by omega)
theorem tups_sortableO {a : Addr} {vs : List Value} {k : Value → List Int} {d : Nat} {B : Int} (hd1 : 1 ≤ d) (h0 : 0 < vs.length) (hp : ∀ v ∈ vs, TS.TupInts s.heap v (k v) ∧ (k v).length = d ∧ TS.Bd B (k v)) (ha : ∀ o, s.heap.get? a = some o → o.cls ≠ .type "tuple") :
    SortableO prog w A s a vs fun v u => decide (TS.code B (k v) < TS.code B (k u)) := by
  intro h' keep
  have hp' : ∀ v ∈ vs, TS.TupInts h' v (k v) ∧ (k v).length = d ∧ TS.Bd B (k v) := fun v hm => ⟨(hp v hm).1.keeps fun b o e c => keep b o (fun z => by subst z; exact ha o e c) e, (hp v hm).2⟩
  obtain ⟨fs, h1, h2, h3⟩ := TS.firsts_of (h := h') (d := d) (B := B) hd1 vs fun v hv => ⟨k v, hp' v hv⟩
  have kind : (Value.type "int" != Value.type "tuple") = true := by decide
  refine ⟨tuples' true, fun Q E hq => PySem.W.kat_kind (T := .type "int") h1 (by omega) (fun f hm => ?_) (by rfl) (kind.symm ▸ hq), ?_⟩
  · obtain ⟨x, t, ef⟩ := h3 f hm
    rw [ef]
    exact PySem.W.Looks.now
  · intro p q hm hm'
    obtain ⟨⟨a1, xs, e1, ⟨o, ho, hc, n, hdt⟩, i⟩, l1, b1⟩ := hp' _ hm
    obtain ⟨⟨a2, ys, e2, ⟨o', ho', hc', n', hdt'⟩, i'⟩, l2, b2⟩ := hp' _ hm'
    show wpAny (model prog w) A (keyLt' (tuples' true) p.1 q.1) (fun r s' => s' = { s with heap := h' } ∧ r = decide (TS.code B (k p.1) < TS.code B (k q.1))) (fun _ _ => False) { s with heap := h' }
    generalize k p.1 = ns at *
    generalize k q.1 = ms at *
    rw [e1, e2]
    refine PySem.W.kat_lt ho hdt ho' hdt' ?_
    have sz : decide (xs.size < ys.size) = false := by
      have z1 := i.length
      have z2 := i'.length
      rw [Array.length_toList] at z1 z2
      exact decide_eq_false (by omega)
    rw [sz]
    exact TS.lex_ints 0 i i' (by omega) b1 b2 ⟨rfl, rfl⟩
end
end SrtO
namespace L2
open PySem PySem.Spec PyProof.Rows
/-- sorted(xs), xs a list of tuples of d ints each in [0, B); ns: their ints -/
def rSortedT (K : PySem.W.Frag) : List V → Hp → VK → Prop := fun vs H Q => ∃ (a : Addr) (xs : List V) (ns : List (List Int)) (d : Nat) (B : Int), vs = [V.ref a] ∧ SqL K H a xs ∧ 1 ≤ d ∧ xs.length = ns.length ∧ (∀ z ∈ xs.zip ns, (∃ t, z.1 = V.ref t ∧ SqT K H t (z.2.map V.int)) ∧ z.2.length = d ∧ TS.Bd B z.2) ∧
  ∀ (zs : List (V × List Int)) (p : Addr), zs.Perm (xs.zip ns) → (zs.map fun z => TS.code B z.2).Pairwise (· ≤ ·) → H p = none → Q (.ref p) (upd H p (.lst (zs.map (·.1))))
theorem zip_fn {α β : Type} (k : α → β) : ∀ (xs : List α) (ns : List β), xs.length = ns.length → (∀ z ∈ xs.zip ns, k z.1 = z.2) → xs.zip ns = xs.map fun x => (x, k x)
  | [], [], _, _ => rfl
  | [], _ :: _, h, _ => by simp at h
  | _ :: _, [], h, _ => by simp at h
  | x :: xs, n :: ns, h, hk => by
    rw [List.zip_cons_cons, List.map_cons, zip_fn k xs ns (by simpa using h) fun z hz => hk z (by simp [hz]), show n = k x from (hk (x, n) (by simp)).symm]
theorem zip_mem {α β : Type} : ∀ (xs : List α) (ns : List β), xs.length = ns.length → ∀ x ∈ xs, ∃ n, (x, n) ∈ xs.zip ns
  | [], _, _, x, h => by simp at h
  | _ :: _, [], h, _, _ => by simp at h
  | y :: xs, n :: ns, h, x, hx => by
    rcases List.mem_cons.mp hx with rfl | hx
    · exact ⟨n, by simp⟩
    · obtain ⟨m, hm⟩ := zip_mem xs ns (by simpa using h) x hx
      exact ⟨m, by simp [hm]⟩
theorem int_inj : ∀ {a b : List Int}, a.map V.int = b.map V.int → a = b
  | [], [], _ => rfl
  | [], _ :: _, h => by simp at h
  | _ :: _, [], h => by simp at h
  | x :: a, y :: b, h => by
    simp only [List.map_cons, List.cons.injEq, V.int.injEq] at h
    rw [h.1, int_inj h.2]
section
variable {X : Cx}
open Classical in
theorem cr_sortedT : CallR X (.builtin "sorted") (rSortedT X.K) := by
  intro pins s σ H vs us Q I r h
  obtain ⟨a, xs, ns, d, B, rfl, hs, hd1, hln, hx, q⟩ := h
  obtain ⟨its, rv, hl, hz⟩ := I.list hs
  obtain ⟨u, rfl, ru⟩ := vals1 r
  obtain rfl : u = Value.ref a := ru
  let k : V → List Int := fun x => if h : ∃ n : List Int, ∃ t, x = V.ref t ∧ SqT X.K H t (n.map V.int) then choose h else []
  have hk : ∀ z ∈ xs.zip ns, k z.1 = z.2 := fun z hzm => by
    obtain ⟨⟨t, e, ht⟩, _⟩ := hx z hzm
    have hex : ∃ n : List Int, ∃ t, z.1 = V.ref t ∧ SqT X.K H t (n.map V.int) := ⟨z.2, t, e, ht⟩
    have hc := choose_spec hex
    show (if h : ∃ n : List Int, ∃ t, z.1 = V.ref t ∧ SqT X.K H t (n.map V.int) then choose h else []) = z.2
    rw [dif_pos hex]
    obtain ⟨t', e', ht'⟩ := hc
    rw [e] at e'
    cases e'
    exact int_inj (I.tuple_inj ht' ht)
  have hx' : ∀ x ∈ xs, (∃ t, x = V.ref t ∧ SqT X.K H t ((k x).map V.int)) ∧ (k x).length = d ∧ TS.Bd B (k x) := fun x hxm => by
    obtain ⟨n, hn⟩ := zip_mem xs ns hln x hxm
    have := hx _ hn
    rw [← hk _ hn] at this
    exact this
  obtain ⟨e1, e2⟩ := refs_back rv fun x m => by
    obtain ⟨⟨t, e, _⟩, _⟩ := hx' x m
    exact ⟨t, e⟩
  have hp : ∀ v ∈ its, TS.TupInts s.heap v (k (backV v)) ∧ (k (backV v)).length = d ∧ TS.Bd B (k (backV v)) := fun v hv => by
    obtain ⟨t, rfl⟩ := e2 v hv
    have hm : V.ref t ∈ xs := by rw [e1]; exact List.mem_map.mpr ⟨_, hv, rfl⟩
    obtain ⟨⟨t', e, ht⟩, h2⟩ := hx' _ hm
    cases e
    obtain ⟨its2, r2, ht2, _⟩ := I.tuple ht
    exact ⟨⟨t, its2.toArray, rfl, ht2, by show IntsAre its2.toArray.toList (k (V.ref t)); simpa using ints_vals r2⟩, h2⟩
  refine SrtO.sorted_ord (SrtO.swo_code B fun v => k (backV v)) hl.isList (by rw [← rv.length]; exact hz) (fun h2 h₁ a' ha kk => ?_) fun out h1 h2 => ?_
  · refine SrtO.tups_sortableO (s := { s with heap := h₁ }) hd1 (by omega) (fun v hm => ⟨(hp v hm).1.keeps fun b o e _ => (kk b o e).2, (hp v hm).2⟩) fun o e => ?_
    have e' : some o = some (seqObj "list" its.toArray 0) := e.symm.trans ha
    cases e'
    intro c
    exact absurd (Value.type.inj c) (by decide)
  · have h3 : ∀ u ∈ out, ∃ a, u = Value.ref a := fun u hu => e2 u (h2.perm.mem_iff.mp hu)
    obtain ⟨n, hn⟩ := sortedAll_at s.heap its out.toArray
    have hq := q ((out.map backV).map fun x => (x, k x)) (s.heap.objs.size + 1) (by
      rw [zip_fn k xs ns hln hk]
      refine List.Perm.map _ ?_
      rw [e1]
      exact h2.perm.map backV) (by
      rw [List.map_map, List.map_map, List.pairwise_map]
      exact (show List.Pairwise _ out from h1).imp fun {x y} z => by
        have := of_decide_eq_false z
        simp only [Function.comp]
        omega) (I.hok.fresh (Nat.le_succ _))
    rw [List.map_map, show ((fun x : V × List Int => x.1) ∘ fun x => (x, k x)) = id from rfl, List.map_id] at hq
    refine ⟨.ref _, upd H _ (.lst (out.map backV)), I.laid (t' := s.toks) (fun b o e => sortedAll_old e) (Nat.le_succ _) ⟨?_, out, n, vals_back h3, hn⟩, rfl, hq⟩
    rw [List.length_map, h2.perm.length_eq, ← rv.length]; exact hz
end
end L2
namespace M
open PySem PySem.Spec PyProof.Rows L2
/-! ### sorted, of tuples of ints -/
/-- the ints of a row of tuples -/
def rowsOf : List D → Option (List (List Int))
  | [] => some []
  | .tuple xs :: r => match intsOf xs, rowsOf r with
    | some is, some rs => some (is :: rs)
    | _, _ => none
  | _ :: _ => none
def tupD (is : List Int) : D := .tuple (is.map .int)
theorem rows_eq : ∀ {ds : List D} {rs : List (List Int)}, rowsOf ds = some rs → ds = rs.map tupD
  | [], _, h => by cases h; rfl
  | d :: ds, rs, h => by
    cases d with
    | tuple xs =>
      unfold rowsOf at h
      cases e1 : intsOf xs with
      | none => rw [e1] at h; cases h
      | some is =>
        cases e2 : rowsOf ds with
        | none => rw [e1, e2] at h; cases h
        | some rs' =>
          rw [e1, e2] at h
          cases h
          rw [List.map_cons, ← rows_eq e2, tupD, ← ints_eq e1]
    | _ => cases h
def insT (B : Int) (x : List Int) : List (List Int) → List (List Int)
  | [] => [x]
  | y :: r => if TS.code B x ≤ TS.code B y then x :: y :: r else y :: insT B x r
def sortT (B : Int) : List (List Int) → List (List Int)
  | [] => []
  | x :: r => insT B x (sortT B r)
theorem insT_perm (B : Int) (x : List Int) : ∀ l, (insT B x l).Perm (x :: l)
  | [] => .refl _
  | y :: r => by
    unfold insT
    split
    · exact .refl _
    · exact ((insT_perm B x r).cons y).trans (.swap x y r)
theorem sortT_perm (B : Int) : ∀ l, (sortT B l).Perm l
  | [] => .refl _
  | x :: r => (insT_perm B x (sortT B r)).trans ((sortT_perm B r).cons x)
theorem insT_sorted (B : Int) (x : List Int) : ∀ {l : List (List Int)}, l.Pairwise (fun a b => TS.code B a ≤ TS.code B b) → (insT B x l).Pairwise (fun a b => TS.code B a ≤ TS.code B b)
  | [], _ => by simp [insT]
  | y :: r, h => by
    unfold insT
    have h' := List.pairwise_cons.mp h
    split
    · rename_i hx
      exact List.pairwise_cons.mpr ⟨fun z hz => by
        rcases List.mem_cons.mp hz with rfl | hz
        · exact hx
        · exact Int.le_trans hx (h'.1 z hz), h⟩
    · rename_i hx
      refine List.pairwise_cons.mpr ⟨fun z hz => ?_, insT_sorted B x h'.2⟩
      rcases List.mem_cons.mp ((insT_perm B x r).mem_iff.mp hz) with rfl | hz
      · omega
      · exact h'.1 z hz
theorem sortT_sorted (B : Int) : ∀ l, (sortT B l).Pairwise (fun a b => TS.code B a ≤ TS.code B b)
  | [] => .nil
  | x :: r => insT_sorted B x (sortT_sorted B r)
theorem code_inj {B : Int} : ∀ {a b : List Int}, a.length = b.length → TS.Bd B a → TS.Bd B b → TS.code B a = TS.code B b → a = b
  | [], [], _, _, _, _ => rfl
  | [], _ :: _, h, _, _, _ => by simp at h
  | _ :: _, [], h, _, _, _ => by simp at h
  | x :: a, y :: b, h, h1, h2, e => by
    have hl : a.length = b.length := by simpa using h
    rcases Int.lt_trichotomy x y with z | z | z
    · have := TS.code_lt hl h1.tail h2.tail z
      omega
    · subst z
      have n1 : ¬ TS.code B a < TS.code B b := fun q => by
        have := (TS.code_same (d := x) hl).mpr q
        omega
      have n2 : ¬ TS.code B b < TS.code B a := fun q => by
        have := (TS.code_same (d := x) hl.symm).mpr q
        omega
      rw [code_inj hl h1.tail h2.tail (by omega)]
    · have := TS.code_lt hl.symm h2.tail h1.tail z
      omega
/-- all as long as the first, all in [0, 64) -/
def rowsOk (rs : List (List Int)) : Bool := match rs with
  | [] => false
  | r :: _ => decide (1 ≤ r.length) && rs.all fun x => decide (x.length = r.length) && x.all fun i => decide (0 ≤ i) && decide (i < 64)
def sortTD : List D → Option D
  | [.list xs] => match rowsOf xs with
    | some rs => if rowsOk rs = true then some (.list ((sortT 64 rs).map tupD)) else none
    | none => none
  | _ => none
theorem QA.zip {K : PySem.W.Frag} {ns : Sc} {G : Hp} : ∀ {us : List V} {rs : List (List Int)}, QA K ns G us (rs.map tupD) → us.length = rs.length ∧ ∀ z ∈ us.zip rs, Q K ns G z.1 (tupD z.2)
  | us, [], q => by cases q; exact ⟨rfl, fun z hz => by simp at hz⟩
  | us, r :: rs, q => by
    cases q with
    | cons q1 q2 =>
      obtain ⟨h1, h2⟩ := QA.zip q2
      exact ⟨by simp [h1], fun z hz => by
        rw [List.zip_cons_cons] at hz
        rcases List.mem_cons.mp hz with rfl | hz
        · exact q1
        · exact h2 z hz⟩
theorem QA.unzip {K : PySem.W.Frag} {ns : Sc} {G : Hp} : ∀ {zs : List (V × List Int)}, (∀ z ∈ zs, Q K ns G z.1 (tupD z.2)) → QA K ns G (zs.map (·.1)) ((zs.map (·.2)).map tupD)
  | [], _ => .nil
  | z :: zs, h => .cons (h z (by simp)) (QA.unzip fun y hy => h y (by simp [hy]))
theorem zip_snd {α β : Type} : ∀ (xs : List α) (ns : List β), xs.length = ns.length → (xs.zip ns).map (·.2) = ns
  | [], [], _ => rfl
  | [], _ :: _, h => by simp at h
  | _ :: _, [], h => by simp at h
  | x :: xs, n :: ns, h => by rw [List.zip_cons_cons, List.map_cons, zip_snd xs ns (by simpa using h)]
section
variable {X : Cx} {c : Cm} {W : WM}
theorem cad_sortedT : CaD X c.ns (rSortedT X.K) sortTD := fun G H vs ds d Qk e s b k => by
  unfold sortTD at e
  split at e
  · rename_i xs
    cases er : rowsOf xs with
    | none => rw [er] at e; cases e
    | some rs =>
      rw [er] at e
      simp only at e
      by_cases hok : rowsOk rs = true
      · rw [if_pos hok] at e
        cases e
        obtain ⟨v, ws, rfl, b1, b2⟩ := b.cons_inv
        obtain rfl := b2.nil_inv
        obtain ⟨a, us, rfl, h1, q1⟩ := b1.list s
        have hrs := rows_eq er
        subst hrs
        obtain ⟨hln, hzq⟩ := q1.zip
        cases rs with
        | nil => cases hok
        | cons r0 rs =>
          have hok' := hok
          unfold rowsOk at hok'
          simp only at hok'
          rw [Bool.and_eq_true] at hok'
          have hd1 : 1 ≤ r0.length := of_decide_eq_true hok'.1
          have hall : ∀ r ∈ r0 :: rs, r.length = r0.length ∧ TS.Bd 64 r := fun r hr => by
            have := List.all_eq_true.mp hok'.2 r hr
            rw [Bool.and_eq_true] at this
            exact ⟨of_decide_eq_true this.1, fun m hm => by
              have := List.all_eq_true.mp this.2 m hm
              simpa using this⟩
          refine ⟨a, us, r0 :: rs, r0.length, 64, rfl, SqL.of h1, hd1, hln, fun z hz => ⟨?_, hall _ (List.of_mem_zip (a := z.1) (b := z.2) hz).2⟩, fun zs p hp hs hpn => ?_⟩
          · have hq := hzq z hz
            generalize z.1 = x at hq
            generalize z.2 = r at hq
            unfold tupD at hq
            cases hq with
            | tup g1 g2 =>
              obtain rfl := g2.ints_inv
              exact ⟨_, rfl, SqT.same s.same g1⟩
          · have hsn : (zs.map (·.2)).Perm (r0 :: rs) := by
              have := hp.map (·.2)
              rwa [zip_snd _ _ hln] at this
            have hes : zs.map (·.2) = sortT 64 (r0 :: rs) := by
              refine List.Perm.eq_of_pairwise (le := fun a b => TS.code 64 a ≤ TS.code 64 b) (fun a b ha hb h h' => ?_) ?_ (sortT_sorted 64 _) (hsn.trans (sortT_perm 64 _).symm)
              · have m1 := hall a (hsn.mem_iff.mp ha)
                have m2 := hall b ((sortT_perm 64 _).mem_iff.mp hb)
                exact code_inj (by omega) m1.2 m2.2 (by omega)
              · rw [List.pairwise_map]
                rw [List.pairwise_map] at hs
                exact hs
            refine newL s (QA.unzip fun z hz => hzq z (hp.mem_iff.mp hz)) ?_ k p hpn
            rw [hes]
      · rw [if_neg hok] at e; cases e
  · cases e
theorem car_sortedA : CallR X (.builtin "sorted") (fun vs H Q => rSortedI X.K vs H Q ∨ rSortedT X.K vs H Q) := cr_sortedI.or cr_sortedT
def sortAD (ds : List D) : Option D := match sortD ds with
  | some d => some d
  | none => sortTD ds
theorem cad_sortedA : CaD X c.ns (fun vs H Q => rSortedI X.K vs H Q ∨ rSortedT X.K vs H Q) sortAD := fun G H vs ds d Qk e s b k => by
  unfold sortAD at e
  cases h : sortD ds with
  | some d' =>
    rw [h] at e
    cases e
    exact .inl (cad_sorted G H vs ds d Qk h s b k)
  | none =>
    rw [h] at e
    exact .inr (cad_sortedT G H vs ds d Qk e s b k)
end
end M
namespace Men
open PySem PySem.Spec PyProof.Rows L2 HT
section
variable {prog : Program} {w : World} {A : Around} {E : Value → Shared → Prop} {s : Shared}
theorem sliceApplied_rev0 {sl : Addr} {vl vu vs : Value} {n : Nat} {Q : Int × Int × Nat → Shared → Prop} (hs : s.heap.IsSliceOf sl vl vu vs) (pl : IsPart vl none) (pu : IsPart vu (some 0)) (ps : IsPart vs (some (-1)))
    (h : Q ((n : Int) - 1, -1, n - 1) s) : wpAny (model prog w) A (Builtin.Slice.sliceApplied (.ref sl) (pure (n : Int))) Q E s := by
  obtain ⟨os, hos, hcs, hds⟩ := id hs
  unfold Builtin.Slice.sliceApplied Builtin.Slice.sliceFields
  refine wpAny_bind (wpAny_bind (wpAny_field hos hds (x := vl) rfl (wpAny_bind (wpAny_field hos hds (x := vu) rfl (wpAny_bind (wpAny_field hos hds (x := vs) rfl (wpAny_pure ?_)))))))
  refine wpAny_bind (slicePart_ ps ?_)
  show wpAny _ _ (if ((-1 : Int) == 0) = true then _ else _) _ _ s
  rw [if_neg (by decide)]
  refine wpAny_bind (slicePart_ pl (wpAny_bind (slicePart_ pu (wpAny_bind (wpAny_pure ?_)))))
  show wpAny _ _ (match Builtin.Slice.sliceAdjust none (some 0) (-1) (n : Int) with | (lo, hi) => pure (lo, (-1 : Int), Builtin.Slice.slicePlaces lo hi (-1))) _ _ s
  have e : Builtin.Slice.sliceAdjust none (some 0) (-1) (n : Int) = ((n : Int) - 1, min 0 ((n : Int) - 1)) := rfl
  rw [e]
  have e2 : Builtin.Slice.slicePlaces ((n : Int) - 1) (min 0 ((n : Int) - 1)) (-1) = n - 1 := by
    unfold Builtin.Slice.slicePlaces
    rw [if_neg (by decide)]
    by_cases c : (n : Int) - 1 > min 0 ((n : Int) - 1)
    · rw [if_pos c, show (- -1 : Int) = 1 by decide, Int.ediv_one]
      omega
    · rw [if_neg c]
      omega
  show wpAny _ _ (pure ((n : Int) - 1, (-1 : Int), Builtin.Slice.slicePlaces ((n : Int) - 1) (min 0 ((n : Int) - 1)) (-1))) _ _ s
  rw [e2]
  exact wpAny_pure h
theorem pick_rev0 (xs : Array Value) : ((List.range (xs.size - 1)).filterMap fun (m : Nat) => xs[((xs.size : Int) - 1 + (m : Int) * -1).toNat]?).toArray = (xs.toList.drop 1).reverse.toArray := by
  have h := pick_run xs 1 (xs.size - 1)
  rw [List.take_of_length_le (by simp)] at h
  congr 1
  rw [← h, ← List.filterMap_reverse, ← List.map_reverse, List.filterMap_map]
  have e : (List.range (xs.size - 1)).reverse = (List.range (xs.size - 1)).map fun m => xs.size - 1 - 1 - m := by
    refine List.ext_getElem (by simp) fun i h1 h2 => ?_
    simp at h1
    simp
  rw [e, List.filterMap_map]
  refine fm_congr _ fun m hm => ?_
  have := List.mem_range.mp hm
  show xs[((xs.size : Int) - 1 + (m : Int) * -1).toNat]? = xs[1 + (xs.size - 1 - 1 - m)]?
  rw [show ((xs.size : Int) - 1 + (m : Int) * -1).toNat = 1 + (xs.size - 1 - 1 - m) by omega]
theorem getItem_tuple_rev0 {t sl : Addr} {items : Array Value} {vl vu vs : Value} {Q : Value → Shared → Prop} (ht : IsTup s.heap t items) (hs : s.heap.IsSliceOf sl vl vu vs) (pl : IsPart vl none) (pu : IsPart vu (some 0)) (ps : IsPart vs (some (-1)))
    (h : Q (.ref s.heap.objs.size) { s with heap := s.heap.push { cls := .type "tuple", data := .seq (items.toList.drop 1).reverse.toArray } })
    (hsz : items.size ≤ sizeLine) : wpAny (model prog w) A (getItem (.ref t) (.ref sl)) Q E s :=
  tup_back ht hs (fun q => sliceApplied_rev0 hs pl pu ps q) (pick_rev0 items) (by simp; omega) h
end
section
variable {X : Cx}
def tRev0 (K : PySem.W.Frag) (te : TE) : TE := fun σ H Q => te σ H fun x H1 => ∃ a xs, x = .ref a ∧ SqT K H1 a xs ∧ ∀ p, H1 p = none → Q (.ref p) (upd H1 p (.tup (xs.drop 1).reverse))
theorem pe_rev0 {e : Expr} {te : TE} {k k0 : Nat} {p0 p1 p2 p3 pos : Pos} (he : PE X e te) : PE X (.Subscript e (.Slice none (some (.Constant (.int 0) k0 p0)) (some (.UnaryOp .USub (.Constant (.int 1) k p1) p2)) p3) pos) (tRev0 X.K te) := by
  refine pe_cut (te := te) he kn_no kn_int kn_neg fun pins s σ H Q x v sl vl vu vs I rel hs part1 part2 part3 ⟨a, xs, ex, hx, q⟩ => ?_
  subst ex
  cases rel
  obtain ⟨its, rv, p, fit⟩ := I.tuple hx
  have len := rv.length
  exact tail_any (ops := [.ref a, .ref sl]) p.typeIs (PyProof.Rows.slot_tuple_getitem.lookup) (getItem_tuple_rev0 p hs part1 part2 part3 (cut_laid I (o := .tup (xs.drop 1).reverse) ⟨by simp; omega, _, (rv.drop 1).reverse, IsTup.new _ _⟩ q) (by rw [List.size_toArray]; omega)) (by with_unfolding_all rfl)
end
end Men
namespace M
open PySem PySem.Spec PyProof.Rows L2
def rev0D : D → Option D
  | .tuple xs => some (.tuple (xs.drop 1).reverse)
  | _ => none
section
variable {X : Cx} {c : Cm} {W : WM}
theorem me_rev0 {e : Expr} {f : Rho → R D} {k k0 : Nat} {p0 p1 p2 p3 pos : Pos} (he : MB X c W e f) : ME X c W (.Subscript e (.Slice none (some (.Constant (.int 0) k0 p0)) (some (.UnaryOp .USub (.Constant (.int 1) k p1) p2)) p3) pos) (e1 rev0D f) :=
  PE.imp (Men.pe_rev0 he) fun σ H Qk ⟨G, ρ, ok, p⟩ => step ok p fun x G1 H1 v _ g1 r1 ok1 p1 => by
    cases x with
    | tuple xs =>
      obtain ⟨a, us, rfl, h1, q1, h2⟩ := r1.tuple ok1.s
      exact ⟨a, us, rfl, h1, newT ok1.s (q1.drop 1).rev rfl p1⟩
    | _ => exact p1.elim
end
end M

namespace M
open PySem PySem.Spec PyProof.Rows L2
/-- a comprehension's names, seen from within it -/
def relS (sc0 sc : Scope) : Scope := relabel sc { (default : Env) with scope := sc0 }
/-- a comprehension within a comprehension -/
theorem blkOk_in {X : Cx} {s : Shared} {H : Hp} {sc scope : Scope} {own : List (Str × Nat)} {C : Addr} {cl : List (Str × Addr)} {fp : List Addr} (N : List Str) (sc0 : Scope) (hN : X.N = N) (h0 : X.env.scope = sc0) (h : blkC N (relS sc0 sc) scope own = true) :
    BlkOk (X.blk s H sc (compEnvC sc cl C X.env) fp).N (X.blk s H sc (compEnvC sc cl C X.env) fp).env.scope scope own := by
  subst h0 hN
  exact blkOk_by h
end M

/-! tuples of ints of whose object it is known that it has no dict: t.index(x) -/
namespace M
open PySem PySem.Spec PyProof.Rows L2 HT
def NT (is : List Int) : D := .dict [(.bool true, .tuple (is.map .int))]
def wk : D → D
  | .dict [(.bool true, .tuple ds)] => .tuple ds
  | d => d
theorem SqN.t {K : PySem.W.Frag} {G : Hp} {a : Addr} {xs : List V} (h : SqN K G a xs) : SqT K G a xs := h.1
theorem Q.wk {K : PySem.W.Frag} {ns : Sc} {G : Hp} {v : V} {d : D} (q : Q K ns G v d) : Q K ns G v (M.wk d) := by
  unfold M.wk
  split
  · cases q with
    | ntp is h1 h2 => subst h2; exact .tup h1.1 QA.ints
    | obj j h1 h2 => cases h2
    | dk ks h1 h2 => cases ks <;> cases h2
    | dt ks h1 h2 => cases ks <;> cases h2
  · exact q
theorem B.wk {K : PySem.W.Frag} {ns : Sc} {G H : Hp} {v : V} {d : D} (q : B K ns G H v d) : B K ns G H v (M.wk d) := by
  rcases q with q | ⟨a, us, ds, e1', e2', e3', e4'⟩
  · exact .inl q.wk
  · subst e2'
    exact .inr ⟨a, us, ds, e1', rfl, e3', e4'⟩
theorem B.nt {K : PySem.W.Frag} {ns : Sc} {G H : Hp} {v : V} {ds : List D} (q : B K ns G H v (.dict [(.bool true, .tuple ds)])) : ∃ (a : Addr) (is : List Int), v = .ref a ∧ SqN K G a (is.map V.int) ∧ ds = is.map PyData.int := by
  rcases q with q | ⟨a, us, ds, _, e2', _⟩
  · cases q with
    | ntp is h1 h2 => exact ⟨_, is, rfl, h1, h2⟩
    | obj j h1 h2 => cases h2
    | dk ks h1 h2 => cases ks <;> cases h2
    | dt ks h1 h2 => cases ks <;> cases h2
  · cases e2'
def wkE (f : Rho → R D) : Rho → R D := fun ρ => (f ρ).bind fun x => .ok (wk x)
section
variable {X : Cx} {c : Cm} {W : WM}
theorem me_wk {e : Expr} {f : Rho → R D} (h : ME X c W e f) : ME X c W e (wkE f) := PE.imp h fun σ H Qk ⟨G, ρ, ok, p⟩ => ⟨G, ρ, ok, by
  unfold wkE at p
  cases e : f ρ with
  | ok a => rw [e] at p; exact fun G' H' v g q => p G' H' v g q.wk
  | rz z => rw [e] at p; exact p
  | bad => rw [e] at p; exact p⟩
theorem mb_wk {e : Expr} {f : Rho → R D} (h : MB X c W e f) : MB X c W e (wkE f) := PE.imp h fun σ H Qk ⟨G, ρ, ok, p⟩ => ⟨G, ρ, ok, by
  unfold wkE at p
  cases e : f ρ with
  | ok a => rw [e] at p; exact fun G' H' v g q => p G' H' v g q.wk
  | rz z => rw [e] at p; exact p
  | bad => rw [e] at p; exact p⟩
theorem nt_frz {o : Obj} {u : HO} (ps : Array Value) : HO.frz o u ≠ .tbl ps := fun z => nomatch z
/-- a new tuple, frozen with its object -/
theorem newN {K : PySem.W.Frag} {ns : Sc} {G H : Hp} {is : List Int} (s : Sub G H) {Qk : VK} (k : ∀ G' H' u, Gr G H G' H' → Q K ns G' u (NT is) → Qk u H') : ∀ (o : Obj), o.cls = .type "tuple" → o.dict = none → ∀ p, H p = none → Qk (.ref p) (upd H p (.frz o (.tup (is.map V.int)))) := fun o hc hd p hp =>
  k _ _ _ (Gr.new s hp nt_frz) (.ntp is ⟨.inl (.inr ⟨o, upd_same⟩), .inl ⟨o, _, upd_same, hc, hd⟩⟩ rfl)
/-- tuple(l), its object told -/
def rTupN (K : PySem.W.Frag) : List V → Hp → VK → Prop := fun xs H Q => ∃ p ys, xs = [.ref p] ∧ SqL K H p ys ∧ ∀ (o : Obj), o.cls = .type "tuple" → o.dict = none → ∀ l, H l = none → Q (.ref l) (upd H l (.frz o (.tup ys)))
theorem call_tupN : CallR X (.type "tuple") (rTupN X.K) := fun pins s σ H xs us Q I r h => by
  obtain ⟨p, ys, rfl, hq, k⟩ := h
  obtain ⟨u, rfl, ru⟩ := vals1 r
  cases ru
  obtain ⟨its, rv, pl, hz⟩ := I.list hq
  have hl := rv.length
  refine call_tuple_list pl.isList (fun h1 kp => ?_) (by rw [List.size_toArray, ← hl]; exact hz)
  have J : Inv X pins σ H { s with heap := h1 } := I.kept (t' := s.toks) kp
  refine ⟨.ref h1.objs.size, _, J.laid (t' := s.toks) (o := .frz { cls := .type "tuple", data := .seq its.toArray } (.tup ys)) (fun _ _ z => Heap.get?_push_of_some _ z) (Nat.le_refl _) ?_, rfl, k _ rfl rfl _ (J.hok.fresh (Nat.le_refl _))⟩
  exact ⟨Heap.get?_push_size _ rfl, hz, its, rv, IsTup.new _ _⟩
def tupN : List D → Option D
  | [.list xs] => (intsOf xs).map fun is => NT is
  | _ => none
theorem cad_tupN : CaD X c.ns (rTupN X.K) tupN := fun G H vs ds d Qk e s b k => by
  unfold tupN at e
  split at e
  · rename_i xs
    cases eb : intsOf xs with
    | none => rw [eb] at e; cases e
    | some bs =>
      rw [eb] at e
      cases e
      obtain rfl := ints_eq eb
      obtain ⟨v, ws, rfl, b1, b2⟩ := b.cons_inv
      obtain rfl := b2.nil_inv
      obtain ⟨a, us, rfl, h1, q1⟩ := b1.list s
      obtain rfl := q1.ints_inv
      exact ⟨a, _, rfl, SqL.of h1, newN s k⟩
  · cases e
/-- t[::-1], its object told -/
def tRevN (K : PySem.W.Frag) (te : TE) : TE := fun σ H Q => te σ H fun x H1 => ∃ a xs, x = .ref a ∧ SqT K H1 a xs ∧ ∀ (o : Obj), o.cls = .type "tuple" → o.dict = none → ∀ p, H1 p = none → Q (.ref p) (upd H1 p (.frz o (.tup xs.reverse)))
theorem pe_revN {e : Expr} {te : TE} {k : Nat} {p1 p2 p3 pos : Pos} (he : PE X e te) : PE X (.Subscript e (.Slice none none (some (.UnaryOp .USub (.Constant (.int 1) k p1) p2)) p3) pos) (tRevN X.K te) := by
  refine Men.pe_cut (te := te) he Men.kn_no Men.kn_no Men.kn_neg fun pins s σ H Q x v sl vl vu vs I rel hs part1 part2 part3 ⟨a, xs, ex, hx, q⟩ => ?_
  subst ex
  cases rel
  obtain ⟨its, rv, p, fit⟩ := I.tuple hx
  have len := rv.length
  exact tail_any (ops := [.ref a, .ref sl]) p.typeIs (PyProof.Rows.slot_tuple_getitem.lookup) (Men.getItem_tuple_rev p hs part1 part2 part3 (Men.cut_laid I (o := .frz { cls := .type "tuple", data := .seq its.toArray.toList.reverse.toArray } (.tup xs.reverse)) ⟨Heap.get?_push_size _ rfl, by simpa using fit, _, rv.reverse, IsTup.new _ _⟩ (q _ rfl rfl)) (by rw [List.size_toArray]; omega)) (by with_unfolding_all rfl)
def revN : D → Option D
  | .dict [(.bool true, .tuple ds)] => (intsOf ds.reverse).map fun is => NT is
  | .tuple ds => (intsOf ds.reverse).map fun is => NT is
  | _ => none
theorem me_revN {e : Expr} {f : Rho → R D} {k : Nat} {p1 p2 p3 pos : Pos} (he : MB X c W e f) : ME X c W (.Subscript e (.Slice none none (some (.UnaryOp .USub (.Constant (.int 1) k p1) p2)) p3) pos) (e1 revN f) :=
  PE.imp (pe_revN he) fun σ H Qk ⟨G, ρ, ok, p⟩ => step ok p fun x G1 H1 v _ g1 r1 ok1 p1 => by
    have key : ∀ ds, B X.K c.ns G1 H1 v (.tuple ds) → Post W (RelQ X.K c.ns) G1 H1 σ Qk (R.of ((intsOf ds.reverse).map fun is => NT is)) → ∃ a xs, v = .ref a ∧ SqT X.K H1 a xs ∧ ∀ (o : Obj), o.cls = .type "tuple" → o.dict = none → ∀ p, H1 p = none → Qk (.ref p) (upd H1 p (.frz o (.tup xs.reverse))) := fun ds r p1 => by
      obtain ⟨a, us, rfl, h1, q1, h2⟩ := r.tuple ok1.s
      cases eb : intsOf ds.reverse with
      | none => rw [eb] at p1; exact p1.elim
      | some bs =>
        rw [eb] at p1
        have q2 := q1.rev
        rw [ints_eq eb] at q2
        refine ⟨a, us, rfl, h1, ?_⟩
        rw [q2.ints_inv]
        exact newN ok1.s p1
    unfold revN at p1
    split at p1
    · exact key _ r1.wk p1
    · exact key _ r1 p1
    · exact p1.elim
/-- t.index(x) -/
def tBN (K : PySem.W.Frag) (r : V → List V → Hp → VK → Prop) (to : TE) (t : TA) : TE := fun σ H Q => to σ H fun x H1 => (∃ p, x = .ref p ∧ ((∃ o u, H1 p = some (.frz o u) ∧ o.cls = .type "tuple" ∧ o.dict = none) ∨ ∃ o, K.lookup p = some o ∧ o.cls = .type "tuple" ∧ o.dict = none)) ∧ t σ H1 fun xs H2 => r x xs H2 Q
theorem pe_bN {o e : Expr} {es : List Expr} {name : Str} {id : String} {r : V → List V → Hp → VK → Prop} {to : TE} {t : TA} {apos cpos : Pos} (pa : PlainAttrs "tuple") (slot : Slot "tuple" name id) (hty : typeOf (.builtin id) = pure (.type "method_descriptor")) (hm : MtR X id r) (ho : PE X o to) (ha : PA X (e :: es) t)
    (hbase : attributeBase o name X.env (eval o X.env) = eval o X.env := by rfl)
    (hfew : ((backTo cpos (starEach (e :: es) X.env)).all (fun x => !x.1) && (backToKw cpos (keywordEach [] X.env)).all (fun x => x.1.isSome) && decide ((e :: es).length + ([] : List Keyword).length + (if ([] : List Keyword).isEmpty then 0 else 1) < 30)) = true := by rfl)
    (hline : (apos.endLine == cpos.line) = true := by rfl) (hs : starEach (e :: es) X.env = (false, eval e X.env) :: starEach es X.env := by rfl) (hpl : (backTo cpos (starEach es X.env)).any (·.1) = false := by rfl) :
    PE X (.Call (.Attribute o name apos) (e :: es) [] cpos) (tBN X.K r to t) := ⟨fun pins s σ H Q I h => by
  refine wpAny_Call_method_late hbase hfew hline rfl (thn (ho.run pins s σ H _ I h) fun v s1 ⟨x, H1, I1, r1, ty, q1⟩ => ?_)
  have hT : s1.TypeIs v "tuple" ∧ ∀ a, v = .ref a → ∃ ob, s1.heap.get? a = some ob ∧ ob.dict = none := by
    obtain ⟨p, rfl, ⟨ob, u, hk, hc, hd⟩ | ⟨ob, hk, hc, hd⟩⟩ := ty
    · cases r1
      obtain ⟨hg, _⟩ := I1.hok p _ hk
      exact ⟨⟨ob, hg, hc⟩, fun a z => by cases z; exact ⟨ob, hg, hd⟩⟩
    · cases r1
      exact ⟨⟨ob, I1.kIn p ob hk, hc⟩, fun a z => by cases z; exact ⟨ob, I1.kIn p ob hk, hd⟩⟩
  refine ⟨"tuple", id, pa, slot, hty, hT.1, hT.2, ?_⟩
  have hA := ha.run cpos pins s1 σ H1 _ I1 q1
  rw [hs] at hA ⊢
  refine Calls.callWith_builtin (by show (false || (backTo cpos (starEach es X.env)).any (·.1)) = false; rw [hpl] <;> rfl) (Calls.evalArgs_plain (thn hA fun us s2 ⟨vs, H2, I2, r2, q2⟩ => ?_))
  exact hm pins s2 σ H2 x vs v us Q I2 r1 r2 q2⟩
def idxN (f g : Rho → R D) : Rho → R D := fun ρ => (f ρ).bind fun d => match d with
  | .dict [(.bool true, .tuple ds)] => (g ρ).bind fun x => R.of (idxL (.list ds) x)
  | _ => .bad
theorem me_idxN {E : Expr} {f g : Rho → R D} (h2 : PE X E (tBN X.K (rIndexT X.K) (tR X.K c W (RelB X.K c.ns) f) (tCons (tR X.K c W (RelB X.K c.ns) g) tNil))) : ME X c W E (idxN f g) :=
  PE.imp h2 fun σ H Qk ⟨G, ρ, ok, p⟩ => step ok p fun d G1 H1 v _ g1 r1 ok1 p1 => by
    split at p1
    · rename_i ds
      obtain ⟨a, is, rfl, h1, rfl⟩ := r1.nt
      have hs := SqN.same ok1.s.same h1
      refine ⟨⟨a, rfl, hs.2⟩, step ok1 p1 fun y G2 H2 w _ g2 r2 ok2 p2 => ?_⟩
      unfold idxL at p2
      dsimp only at p2
      by_cases hf : (flatD y && (is.map PyData.int).all flatD) = true
      · rw [if_pos hf] at p2
        cases ej : findI y (is.map .int) with
        | none => rw [ej] at p2; exact p2.elim
        | some j =>
          rw [ej] at p2
          obtain ⟨f1, f2, z, f3, f4, f5⟩ := idx_road (r2.q (Bool.and_eq_true_iff.mp hf).1) (QA.ints (is := is)) hf ej
          exact ⟨a, _, w, j, z, rfl, rfl, SqT.same ok2.s.same (SqT.same g2.g h1.1), f1, f2, f3, f4, f5, p2 G2 H2 _ (Gr.refl ok2.s) (.int _)⟩
      · rw [if_neg hf] at p2; exact p2.elim
    · exact p1.elim
end
end M

namespace M
open PySem PySem.Spec PyProof.Rows L2
/-! ### a, b, c, d = x, y, z, w -/
def sPar4 (i j k l : Nat) (f g h m : Rho → R Sl) : Rho → Out := fun ρ => (f ρ).out ρ fun s => (g ρ).out ρ fun t => (h ρ).out ρ fun u => (m ρ).out ρ fun w => .nx ((((ρ.set i s).set j t).set k u).set l w)
section
variable {X : Cx} {c : Cm} {W : WM}
theorem ms_par4 {i j k l : Nat} {tg a b d e : Expr} {f g h m : Rho → R Sl} {kk : Nat} {pt pos : Pos} (ha : MN X c W a f) (hb : MN X c W b g) (hd : MN X c W d h) (he : MN X c W e m) (hg : PG X tg (gTup X.K 4 (gCons (gName i) (gCons (gName j) (gCons (gName k) (gCons (gName l) gNil))))))
    (hs : swapsWithSole [tg] (.Tuple [a, b, d, e] kk pt) pos.line X.env = pure false := by rfl) (hw : swappedStores [tg] (.Tuple [a, b, d, e] kk pt) X.env = pure none := by rfl) (h1 : (assignEach [tg] X.env).map (·.2) = [assign tg X.env] := by rfl)
    (s1 : starEach [a, b, d, e] X.env = (false, eval a X.env) :: starEach [b, d, e] X.env := by rfl) (s2 : starEach [b, d, e] X.env = (false, eval b X.env) :: starEach [d, e] X.env := by rfl) (s3 : starEach [d, e] X.env = (false, eval d X.env) :: starEach [e] X.env := by rfl) (s4 : starEach [e] X.env = (false, eval e X.env) :: starEach [] X.env := by rfl) :
    MS X c W (.Assign [tg] (.Tuple [a, b, d, e] kk pt) pos) (sPar4 i j k l f g h m) :=
  PS.imp (ps_asg (pe_tup (pa_cons ha (pa_cons hb (pa_cons hd (pa_cons he pa_nil s4) s3) s2) s1)) hg hs hw h1) fun De σ H ⟨G, ρ, ok, p⟩ => stepSN ok p fun s G1 H1 v1 _ g1 r1 ok1 p1 => stepSN ok1 p1 fun t G2 H2 v2 _ g2 r2 ok2 p2 => stepSN ok2 p2 fun u G3 H3 v3 _ g3 r3 ok3 p3 => stepSN ok3 p3 fun w G4 H4 v4 _ g4 r4 ok4 p4 =>
    ⟨sz (by simp), fun q hq => ⟨q, [v1, v2, v3, v4], rfl, .inl (.inl upd_same), rfl, v1, _, rfl, v2, _, rfl, v3, _, rfl, v4, _, rfl, rfl, p4 G4 _ _ (Same.refl G4) (((((ok.new g1 i r1).new g2 j r2).new g3 k r3).new g4 l r4).gr (Gr.own ok4.s hq))⟩⟩
end
end M

/-! a < b and sorted of data that are alike: (int, list) -/
namespace M
open PySem PySem.Spec PyProof.Rows L2
/-! ### (int, list of ints) -/
def lx : List Int → List Int → Bool
  | [], [] => false
  | [], _ :: _ => true
  | _ :: _, [] => false
  | x :: xs, y :: ys => if x = y then lx xs ys else decide (x < y)
theorem lx_irr : ∀ xs : List Int, lx xs xs = false
  | [] => rfl
  | x :: xs => by rw [lx, if_pos rfl, lx_irr xs]
theorem lx_tri : ∀ xs ys : List Int, lx xs ys = false → lx ys xs = false → xs = ys
  | [], [], _, _ => rfl
  | [], _ :: _, h, _ => by cases h
  | _ :: _, [], _, h => by cases h
  | x :: xs, y :: ys, h1, h2 => by
    rw [lx] at h1 h2
    by_cases c : x = y
    · subst c
      rw [if_pos rfl] at h1 h2
      rw [lx_tri xs ys h1 h2]
    · rw [if_neg c] at h1
      rw [if_neg (fun z => c z.symm)] at h2
      have := of_decide_eq_false h1
      have := of_decide_eq_false h2
      omega
theorem lx_trans : ∀ xs ys zs : List Int, lx xs ys = true → lx ys zs = true → lx xs zs = true
  | [], [], _, h, _ => by cases h
  | [], _ :: _, [], _, h => by cases h
  | [], _ :: _, _ :: _, _, _ => rfl
  | _ :: _, [], _, h, _ => by cases h
  | _ :: _, _ :: _, [], _, h => by cases h
  | x :: xs, y :: ys, z :: zs, h1, h2 => by
    rw [lx] at h1 h2 ⊢
    by_cases c1 : x = y
    · rw [if_pos c1] at h1
      by_cases c2 : y = z
      · rw [if_pos c2] at h2
        rw [if_pos (c1.trans c2)]
        exact lx_trans xs ys zs h1 h2
      · rw [if_neg c2] at h2
        rw [if_neg (fun q => c2 (c1.symm.trans q)), c1]
        exact h2
    · rw [if_neg c1] at h1
      have a := of_decide_eq_true h1
      by_cases c2 : y = z
      · rw [if_neg (fun q => c1 (q.trans c2.symm)), ← c2]
        exact h1
      · rw [if_neg c2] at h2
        have b := of_decide_eq_true h2
        rw [if_neg (by omega)]
        exact decide_eq_true (by omega)
theorem lx_asym (xs ys : List Int) (h : lx xs ys = true) : lx ys xs = false := by
  cases e : lx ys xs with
  | false => rfl
  | true =>
    have := lx_trans _ _ _ h e
    rw [lx_irr] at this
    cases this
theorem lx_lt : ∀ xs ys : List Int, decide (xs < ys) = lx xs ys
  | [], [] => by simp [lx]
  | [], _ :: _ => by simp [lx]
  | _ :: _, [] => by simp [lx]
  | x :: xs, y :: ys => by
    rw [lx, ← lx_lt xs ys]
    by_cases c : x = y
    · subst c
      simp [List.cons_lt_cons_iff]
    · rw [if_neg c]
      simp [List.cons_lt_cons_iff, c]
def pD (z : Int × List Int) : D := .tuple [.int z.1, .list (z.2.map .int)]
def ltZ (z w : Int × List Int) : Bool := if z.1 = w.1 then lx z.2 w.2 else decide (z.1 < w.1)
theorem ltZ_irr (z : Int × List Int) : ltZ z z = false := by rw [ltZ, if_pos rfl, lx_irr]
theorem ltZ_trans {a b d : Int × List Int} (h1 : ltZ a b = true) (h2 : ltZ b d = true) : ltZ a d = true := by
  unfold ltZ at h1 h2 ⊢
  by_cases c1 : a.1 = b.1
  · rw [if_pos c1] at h1
    by_cases c2 : b.1 = d.1
    · rw [if_pos c2] at h2
      rw [if_pos (c1.trans c2)]
      exact lx_trans _ _ _ h1 h2
    · rw [if_neg c2] at h2
      rw [if_neg (fun q => c2 (c1.symm.trans q)), c1]
      exact h2
  · rw [if_neg c1] at h1
    have a' := of_decide_eq_true h1
    by_cases c2 : b.1 = d.1
    · rw [if_neg (fun q => c1 (q.trans c2.symm)), ← c2]
      exact h1
    · rw [if_neg c2] at h2
      have b' := of_decide_eq_true h2
      rw [if_neg (by omega)]
      exact decide_eq_true (by omega)
theorem ltZ_asym {a b : Int × List Int} (h : ltZ a b = true) : ltZ b a = false := by
  cases e : ltZ b a with
  | false => rfl
  | true =>
    have := ltZ_trans h e
    rw [ltZ_irr] at this
    cases this
theorem ltZ_tri {a b : Int × List Int} (h1 : ltZ a b = false) (h2 : ltZ b a = false) : a = b := by
  unfold ltZ at h1 h2
  by_cases c : a.1 = b.1
  · rw [if_pos c] at h1
    rw [if_pos c.symm] at h2
    exact Prod.ext c (lx_tri _ _ h1 h2)
  · rw [if_neg c] at h1
    rw [if_neg (fun q => c q.symm)] at h2
    have := of_decide_eq_false h1
    have := of_decide_eq_false h2
    omega
theorem alike_pD (z w : Int × List Int) : PySem.W.alike (pD z) (pD w) = true := by
  simp [pD, PySem.W.alike, PySem.W.alikeAll, PySem.W.alike_ints]
theorem lay_is (xs : List Int) : PyData.canLayAll0 (xs.map .int) = true := by
  induction xs with
  | nil => simp [PyData.canLayAll0]
  | cons x xs ih => simp [PyData.canLayAll0, PyData.canLay0, ih]
theorem shaped_pD (z : Int × List Int) : SeqAt.shaped (pD z) = true := by
  simp [SeqAt.shaped, pD, PyData.canLay0, PyData.canLayAll0, PyData.depth, PyData.depthAll, PySem.W.depth_ints, lay_is]
theorem eqv_is (xs ys : List Int) : PyData.eqvAll (xs.map .int) (ys.map .int) = decide (xs = ys) := by
  induction xs generalizing ys with
  | nil => cases ys <;> simp [PyData.eqvAll]
  | cons x xs ih =>
    cases ys with
    | nil => simp [PyData.eqvAll]
    | cons y ys =>
      simp only [List.map_cons, PyData.eqvAll, PyData.eqv, ih]
      by_cases c : x = y <;> simp [c]
theorem dataLt_pD (z w : Int × List Int) : PySem.W.dataLt (pD z) (pD w) = ltZ z w := by
  unfold pD ltZ
  rw [PySem.W.dataLt_pair (by rfl) (by simp [PySem.W.alike, PySem.W.alike_ints]), PySem.W.dataLt_list, PySem.W.dataLt_int]
  have e := PySem.W.dataLt_ints z.2 w.2
  unfold PySem.W.rowLt at e
  rw [e, lx_lt]
  simp only [PyData.eqv, eqv_is]
  by_cases c : z.1 = w.1
  · rw [if_pos c, if_pos (by simpa using c)]
    by_cases c2 : z.2 = w.2
    · rw [decide_eq_true c2, if_pos rfl, c2, lx_irr]
    · rw [decide_eq_false c2, if_neg (by decide)]
  · rw [if_neg c, if_neg (by simpa using c)]
def prP : D → Option (Int × List Int)
  | .tuple [.int a, .list xs] => (intsOf xs).map fun is => (a, is)
  | _ => none
theorem prP_eq {d : D} {z : Int × List Int} (h : prP d = some z) : d = pD z := by
  unfold prP at h
  split at h
  · rename_i a xs
    cases e : intsOf xs with
    | none => rw [e] at h; cases h
    | some is =>
      rw [e] at h
      cases h
      rw [ints_eq e]
      rfl
  · cases h
theorem prP_pD (z : Int × List Int) : prP (pD z) = some z := by
  simp [prP, pD, ints_map]
def rowsP : List D → Option (List (Int × List Int))
  | [] => some []
  | d :: ds => match prP d, rowsP ds with
    | some z, some zs => some (z :: zs)
    | _, _ => none
theorem rowsP_eq : ∀ {ds : List D} {zs : List (Int × List Int)}, rowsP ds = some zs → ds = zs.map pD
  | [], _, h => by cases h; rfl
  | d :: ds, zs, h => by
    unfold rowsP at h
    split at h
    · rename_i z zs' e1' e2'
      cases h
      rw [List.map_cons, ← prP_eq e1', ← rowsP_eq e2']
    · cases h
theorem rowsP_map (zs : List (Int × List Int)) : rowsP (zs.map pD) = some zs := by
  induction zs with
  | nil => rfl
  | cons z zs ih => rw [List.map_cons, rowsP, prP_pD, ih]
def insZ (x : Int × List Int) : List (Int × List Int) → List (Int × List Int)
  | [] => [x]
  | y :: l => if ltZ y x then y :: insZ x l else x :: y :: l
def sortZ : List (Int × List Int) → List (Int × List Int)
  | [] => []
  | x :: l => insZ x (sortZ l)
def leZ (z w : Int × List Int) : Bool := !ltZ w z
theorem insZ_perm (x : Int × List Int) : ∀ l, (insZ x l).Perm (x :: l)
  | [] => .refl _
  | y :: l => by
    rw [insZ]
    split
    · exact ((insZ_perm x l).cons y).trans (.swap x y l)
    · exact .refl _
theorem sortZ_perm : ∀ l, (sortZ l).Perm l
  | [] => .refl _
  | x :: l => (insZ_perm x (sortZ l)).trans ((sortZ_perm l).cons x)
theorem leZ_trans (a b d : Int × List Int) (h1 : leZ a b = true) (h2 : leZ b d = true) : leZ a d = true := by
  unfold leZ at *
  simp only [Bool.not_eq_true'] at *
  cases e : ltZ d a with
  | false => rfl
  | true =>
    cases e2 : ltZ a b with
    | true =>
      have := ltZ_trans e e2
      rw [h2] at this
      cases this
    | false =>
      have := ltZ_tri e2 h1
      subst this
      rw [h2] at e
      cases e
theorem leZ_total (a b : Int × List Int) : (leZ a b || leZ b a) = true := by
  unfold leZ
  cases e : ltZ a b with
  | true => rw [ltZ_asym e]; rfl
  | false => simp
theorem insZ_sorted (x : Int × List Int) : ∀ {l : List (Int × List Int)}, l.Pairwise (fun a b => leZ a b = true) → (insZ x l).Pairwise (fun a b => leZ a b = true)
  | [], _ => List.pairwise_singleton _ _
  | y :: l, h => by
    rw [List.pairwise_cons] at h
    rw [insZ]
    split
    · rename_i c
      rw [List.pairwise_cons]
      refine ⟨fun z hz => ?_, insZ_sorted x h.2⟩
      rcases List.mem_cons.mp ((insZ_perm x l).mem_iff.mp hz) with rfl | hz
      · unfold leZ
        rw [ltZ_asym c]
        rfl
      · exact h.1 z hz
    · rename_i c
      have hxy : leZ x y = true := by unfold leZ; simpa using c
      rw [List.pairwise_cons]
      refine ⟨fun z hz => ?_, List.pairwise_cons.mpr h⟩
      rcases List.mem_cons.mp hz with rfl | hz
      · exact hxy
      · exact leZ_trans _ _ _ hxy (h.1 z hz)
theorem sortZ_sorted : ∀ l, (sortZ l).Pairwise (fun a b => leZ a b = true)
  | [] => .nil
  | x :: l => insZ_sorted x (sortZ_sorted l)
theorem merge_sortZ (zs : List (Int × List Int)) : zs.mergeSort leZ = sortZ zs := by
  refine List.Perm.eq_of_pairwise (le := fun a b => leZ a b = true) (fun a b _ _ h1 h2 => ?_) (List.pairwise_mergeSort leZ_trans leZ_total zs) (sortZ_sorted zs) ((List.mergeSort_perm zs leZ).trans (sortZ_perm zs).symm)
  unfold leZ at h1 h2
  simp only [Bool.not_eq_true'] at h1 h2
  exact ltZ_tri h2 h1
section
variable {X : Cx} {c : Cm} {W : WM}
def rLtD (K : PySem.W.Frag) : R2 := fun x y H Q => ∃ d e, Dp K H x d ∧ Dp K H y e ∧ SeqAt.shaped d = true ∧ PySem.W.alike d e = true ∧ d ≠ .none ∧ Q (.bl (PySem.W.dataLt d e)) H
theorem op_ltD (hu : X.A.units + 65 < cLine) : OpR X (compareOp .Lt) (rLtD X.K) := fun pins s σ H x y v u Q I rx ry h => by
  obtain ⟨d, e, hd, he, sd, al, hn, q⟩ := h
  obtain ⟨as, r1⟩ := Dp.reads I d x v hd rx
  obtain ⟨bs, r2⟩ := Dp.reads I e y u he ry
  have hdp : d.depth ≤ 64 := by
    unfold SeqAt.shaped at sd
    have := (Bool.and_eq_true_iff.mp sd).2
    exact of_decide_eq_true this
  have R := PySem.W.rcLt_alike d e X.A s v u as bs r1 r2 al hn (by
    have := Nat.min_le_left d.depth e.depth
    omega)
  exact R X.prog X.w X.xe (EP X pins σ Q) ⟨.bl _, H, I, rfl, q⟩
def ltAD (x y : D) : Option Bool := match prP x, prP y with
  | some z, some w => some (ltZ z w)
  | _, _ => none
theorem cmd_ltA : CmD X c.ns (rLtD X.K) ltAD := fun G H v w x y d Qk e s b1 b2 k => by
  unfold ltAD at e
  split at e
  · rename_i z w' h1 h2
    cases e
    have e1' := prP_eq h1
    have e2' := prP_eq h2
    subst e1' e2'
    refine ⟨_, _, b1.dp s (shaped_pD z), b2.dp s (shaped_pD w'), shaped_pD z, alike_pD z w', (fun q => nomatch q), ?_⟩
    rw [dataLt_pD]
    exact k G H (Gr.refl s)
  · cases e
theorem units70 {k : Nat} {A : Around} (r : Room k A) : A.units + 70 < cLine := by have := r.un; omega
/-! ### sorted -/
theorem each_vals {H : Hp} {pins : List (Addr × Obj)} {σ : L2.St} {s : Shared} (I : Inv X pins σ H s) : ∀ {xs : List V} {ds : List D} {us : List Value}, DpAll X.K H xs ds → Vals xs us → PySem.W.EachIs (fun u (z : V × D) => RelV z.1 u) us (xs.zip ds) ∧ PySem.W.EachIs (fun u (z : V × D) => ∃ as, Reads s.heap u z.2 as) us (xs.zip ds) ∧ (xs.zip ds).map (·.2) = ds ∧ xs.length = ds.length
  | [], [], _, _, r => by cases r; exact ⟨.nil, .nil, rfl, rfl⟩
  | [], _ :: _, _, h, _ => by cases h
  | _ :: _, [], _, h, _ => by cases h
  | x :: xs, d :: ds, _, h, r => by
    cases h with
    | cons h1 h2 =>
      cases r with
      | cons r1 r2 =>
        obtain ⟨a, b, e, l⟩ := each_vals I h2 r2
        exact ⟨.cons r1 a, .cons (Dp.reads I d x _ h1 r1) b, by simp [e], by simp [l]⟩
theorem vals_each : ∀ {us : List Value} {zs : List (V × D)}, PySem.W.EachIs (fun u (z : V × D) => RelV z.1 u) us zs → Vals (zs.map (·.1)) us
  | _, _, .nil => .nil
  | _, _, .cons h t => .cons h (vals_each t)
def tupAll (ds : List D) : Bool := ds.all fun d => match d with
  | .tuple (_ :: _) => true
  | _ => false
def alikeB (ds : List D) : Bool := ds.all fun d => ds.all fun e => PySem.W.alike d e
def leP (x y : D) : Bool := !PySem.W.dataLt y x
def rSortP (K : PySem.W.Frag) : List V → Hp → VK → Prop := fun vs H Q => ∃ (a : Addr) (xs : List V) (ds : List D), vs = [V.ref a] ∧ SqL K H a xs ∧ DpAll K H xs ds ∧ alikeB ds = true ∧ tupAll ds = true ∧ (∀ d ∈ ds, SeqAt.shaped d = true) ∧
  ∀ p, H p = none → Q (.ref p) (upd H p (.lst (((xs.zip ds).mergeSort fun y z => leP y.2 z.2).map (·.1))))
theorem cr_sortP (hu : X.A.units + 70 < cLine) : CallR X (.builtin "sorted") (rSortP X.K) := fun pins s σ H vs us Q I r h => by
  obtain ⟨a, xs, ds, rfl, hs, hdp, hal, htu, hsh, q⟩ := h
  obtain ⟨its, rv, hl, hz⟩ := I.list hs
  obtain ⟨u, rfl, ru⟩ := vals1 r
  obtain rfl : u = Value.ref a := ru
  obtain ⟨e1', e2', e3', e4'⟩ := each_vals I hdp rv
  refine PySem.W.sorted_data (enc := fun z : V × D => z.2) hl.isList e1' e2' ?_ ?_ ?_ (fun z hzm => ?_) fun out hol hE => ?_
  · rw [e3']
    exact fun d hd e he => List.all_eq_true.mp (List.all_eq_true.mp hal d hd) e he
  · rw [e3']
    refine .inl fun d hd => ?_
    have := List.all_eq_true.mp htu d hd
    split at this
    · rename_i x r
      exact ⟨x, r, rfl⟩
    · cases this
  · rw [List.length_zip, ← e4', Nat.min_self]
    exact hz
  · have hd : z.2 ∈ ds := (List.of_mem_zip (a := z.1) (b := z.2) hzm).2
    have sd := hsh _ hd
    unfold SeqAt.shaped at sd
    have := of_decide_eq_true (Bool.and_eq_true_iff.mp sd).2
    show X.A.units + 2 + z.2.depth < cLine
    omega
  · have he : PySem.W.dataLe false (fun z : V × D => z.2) = fun y z => leP y.2 z.2 := by
      rw [PySem.W.dataLe_eq]
      rfl
    rw [he] at hE
    obtain ⟨n, hn⟩ := sortedAll_at s.heap its out.toArray
    refine ⟨.ref _, _, I.laid (t' := s.toks) (o := .lst (((xs.zip ds).mergeSort fun y z => leP y.2 z.2).map (·.1))) (fun b o e => sortedAll_old e) (Nat.le_succ _) ⟨?_, out, n, vals_each hE, hn⟩, rfl, q _ (I.hok.fresh (Nat.le_succ _))⟩
    rw [List.length_map, List.length_mergeSort, List.length_zip, ← e4', Nat.min_self]
    exact hz
def sortPD : List D → Option D
  | [.list ds] => (rowsP ds).map fun zs => .list ((sortZ zs).map pD)
  | _ => none
theorem QA.zipQ {K : PySem.W.Frag} {ns : Sc} {G : Hp} : ∀ {us : List V} {ds : List D}, QA K ns G us ds → us.length = ds.length ∧ (us.zip ds).map (·.2) = ds ∧ ∀ z ∈ us.zip ds, Q K ns G z.1 z.2
  | us, [], q => by cases q; exact ⟨rfl, rfl, fun z hz => by simp at hz⟩
  | us, d :: ds, q => by
    cases q with
    | cons q1 q2 =>
      obtain ⟨h1, h2, h3⟩ := QA.zipQ q2
      exact ⟨by simp [h1], by simp [h2], fun z hz => by
        rw [List.zip_cons_cons] at hz
        rcases List.mem_cons.mp hz with rfl | hz
        · exact q1
        · exact h3 z hz⟩
theorem QA.ofZip {K : PySem.W.Frag} {ns : Sc} {G : Hp} : ∀ {zs : List (V × D)}, (∀ z ∈ zs, Q K ns G z.1 z.2) → QA K ns G (zs.map (·.1)) (zs.map (·.2))
  | [], _ => .nil
  | z :: zs, h => .cons (h z (by simp)) (QA.ofZip fun y hy => h y (by simp [hy]))
theorem dpAll_of {K : PySem.W.Frag} {ns : Sc} {G H : Hp} (s : Same G H) : ∀ {us : List V} {ds : List D}, QA K ns G us ds → (∀ d ∈ ds, SeqAt.shaped d = true) → DpAll K H us ds
  | us, [], q, _ => by cases q; exact .nil
  | us, d :: ds, q, h => by
    cases q with
    | cons q1 q2 => exact .cons (Q.dp s d _ (SeqAt.canLay_of_shaped (h d (by simp))) q1) (dpAll_of s q2 fun e he => h e (by simp [he]))
theorem cad_sortP : CaD X c.ns (rSortP X.K) sortPD := fun G H vs ds d Qk e s b k => by
  unfold sortPD at e
  split at e
  · rename_i xs
    cases er : rowsP xs with
    | none => rw [er] at e; cases e
    | some zs =>
      rw [er] at e
      cases e
      have hxs := rowsP_eq er
      subst hxs
      obtain ⟨v, ws, rfl, b1, b2⟩ := b.cons_inv
      obtain rfl := b2.nil_inv
      obtain ⟨a, us, rfl, h1, q1⟩ := b1.list s
      have hsh : ∀ d ∈ zs.map pD, SeqAt.shaped d = true := fun d hd => by
        obtain ⟨z, _, rfl⟩ := List.mem_map.mp hd
        exact shaped_pD z
      have hal : alikeB (zs.map pD) = true := List.all_eq_true.mpr fun d hd => List.all_eq_true.mpr fun e he => by
        obtain ⟨z, _, rfl⟩ := List.mem_map.mp hd
        obtain ⟨w, _, rfl⟩ := List.mem_map.mp he
        exact alike_pD z w
      have htu : tupAll (zs.map pD) = true := List.all_eq_true.mpr fun d hd => by
        obtain ⟨z, _, rfl⟩ := List.mem_map.mp hd
        rfl
      obtain ⟨z1, z2, z3⟩ := q1.zipQ
      refine ⟨a, us, _, rfl, SqL.of h1, dpAll_of s.same q1 hsh, hal, htu, hsh, newL s (QA.ofZip fun z hz => z3 z (List.mem_mergeSort.mp hz)) ?_ k⟩
      have e : (((us.zip (zs.map pD)).mergeSort fun y z => leP y.2 z.2).map (·.2)) = (sortZ zs).map pD := by
        rw [List.map_mergeSort (s := leP) (fun a _ b _ => rfl), z2, ← merge_sortZ, List.map_mergeSort (s := leP) (fun a _ b _ => ?_)]
        unfold leZ leP
        rw [dataLt_pD]
      rw [e]
  · cases e
end
end M

namespace M
open PySem PySem.Spec PyProof.Rows L2 HT
/-! ### l[1::2] -/
def odds {α : Type} : List α → List α
  | _ :: y :: l => y :: odds l
  | _ => []
theorem odds_range {α : Type} : ∀ l : List α, ((List.range (l.length / 2)).filterMap fun (k : Nat) => l[1 + 2 * k]?) = odds l
  | [] => by simp [odds]
  | [_] => by simp [odds]
  | x :: y :: l => by
    have ih := odds_range l
    rw [show (x :: y :: l).length / 2 = l.length / 2 + 1 by simp [List.length_cons]; omega, List.range_succ_eq_map, List.filterMap_cons, List.filterMap_map]
    show y :: _ = y :: odds l
    rw [← ih]
    congr 1
theorem pick_odd (items : Array Value) : slicePick items (some 1) none (some 2) = (odds items.toList).toArray := by
  unfold slicePick
  have e : sliceBounds (some 1) none (some 2) items.size = (max 0 (min 1 (items.size : Int)), (items.size : Int), 2) := rfl
  rw [e]
  have e2 : sliceRange (max 0 (min 1 (items.size : Int))) (items.size : Int) 2 = (List.range (items.size / 2)).map fun (k : Nat) => 1 + 2 * k := by
    unfold sliceRange
    simp only [show (2 : Int) > 0 from by decide, if_true]
    by_cases h : (1 : Int) < (items.size : Int)
    · rw [show max 0 (min 1 (items.size : Int)) = 1 by omega, if_pos h, show (((items.size : Int) - 1 + 2 - 1) / 2).toNat = items.size / 2 by omega]
      apply List.map_congr_left
      intro k _
      omega
    · have hz : items.size / 2 = 0 := by omega
      rw [if_neg (by omega), hz]
      rfl
  show ((sliceRange (max 0 (min 1 (items.size : Int))) (items.size : Int) 2).filterMap (items[·]?)).toArray = _
  rw [e2, List.filterMap_map, ← odds_range, Array.length_toList]
  congr 1
  apply Men.fm_congr
  intro k _
  simp
theorem vals_odds : ∀ {xs : List V} {us : List Value}, Vals xs us → Vals (odds xs) (odds us)
  | _, _, .nil => .nil
  | _, _, .cons _ .nil => .nil
  | _, _, .cons _ (.cons r t) => .cons r (vals_odds t)
theorem QA.odds {K : PySem.W.Frag} {ns : Sc} {G : Hp} : ∀ {ds : List D} {vs : List V}, QA K ns G vs ds → QA K ns G (M.odds vs) (M.odds ds)
  | [], _, h => by cases h; exact .nil
  | [_], _, h => by
    cases h with
    | cons h1 h2 => cases h2; exact .nil
  | _ :: _ :: ds, _, h => by
    cases h with
    | cons h1 h2 =>
      cases h2 with
      | cons h3 h4 => exact .cons h3 (QA.odds h4)
theorem odds_len {α : Type} : ∀ l : List α, (odds l).length ≤ l.length
  | [] => Nat.le_refl _
  | [_] => Nat.zero_le _
  | _ :: _ :: l => by
    have := odds_len l
    simp [odds]
    omega
section
variable {X : Cx} {c : Cm} {W : WM}
def tOdd (K : PySem.W.Frag) (te : TE) : TE := fun σ H Q => te σ H fun x H1 => ∃ a xs, x = .ref a ∧ SqL K H1 a xs ∧ ∀ p, H1 p = none → Q (.ref p) (upd H1 p (.lst (odds xs)))
theorem pe_odd {e : Expr} {te : TE} {k k2 : Nat} {p1 p2 p3 pos : Pos} (he : PE X e te) : PE X (.Subscript e (.Slice (some (.Constant (.int 1) k p1)) none (some (.Constant (.int 2) k2 p2)) p3) pos) (tOdd X.K te) := by
  refine Men.pe_cut (te := te) he Men.kn_int Men.kn_no Men.kn_int fun pins s σ H Q x v sl vl vu vs I rel hs part1 part2 part3 ⟨a, xs, ex, hx, q⟩ => ?_
  subst ex
  cases rel
  obtain ⟨its, rv, p, fit⟩ := I.list hx
  have len := rv.length
  refine tail_any (ops := [.ref a, .ref sl]) p.isList.typeIs (PySem.slot_list_getitem.lookup) (wpAny_getItem_list_slice p.isList hs part1 part2 part3 (by decide) ?_ (by rw [List.size_toArray]; omega)) (by with_unfolding_all rfl)
  rw [pick_odd]
  exact Men.cut_laid I (o := .lst (odds xs)) ⟨Nat.le_trans (odds_len xs) fit, odds its, 0, vals_odds rv, Heap.get?_push_size _ rfl⟩ q
def oddD : D → Option D
  | .list xs => some (.list (odds xs))
  | _ => none
theorem me_odd {e : Expr} {f : Rho → R D} {k k2 : Nat} {p1 p2 p3 pos : Pos} (he : MB X c W e f) : ME X c W (.Subscript e (.Slice (some (.Constant (.int 1) k p1)) none (some (.Constant (.int 2) k2 p2)) p3) pos) (e1 oddD f) :=
  PE.imp (pe_odd he) fun σ H Qk ⟨G, ρ, ok, p⟩ => step ok p fun x G1 H1 v _ g1 r1 ok1 p1 => by
    cases x with
    | list xs =>
      obtain ⟨a, us, rfl, h1, q1⟩ := r1.list ok1.s
      exact ⟨a, us, rfl, SqL.of h1, newL ok1.s q1.odds rfl p1⟩
    | _ => exact p1.elim
end
end M

/-! defs that raise -/
namespace M
open PySem PySem.Spec PyProof.Rows L2
def wm (mg : Str → Option Value) (V : WX) : WM := fun z σ H => ∀ C, mg z = some (.ref C) → V (.ref C) none σ H
section
variable {X : Cx} {c : Cm} {V : WX}
theorem ms_raise {z : Str} {C : Addr} {e : Expr} {pos : Pos} (hc : X.calm = true) (tk : L2.Takes X V) (he : L2.PMk X e (fun _ H Q => Q (.ref C) none H)) (hm : X.mg z = some (.ref C)) : MS X c (wm X.mg V) (.Raise (some e) none pos) (fun ρ => .rz z ρ) :=
  PS.imp (L2.ps_raise hc tk he) fun De σ H ⟨G, ρ, ok, p⟩ => p G H σ (Same.refl G) ok C hm
theorem me_callX {k : Nat} {fa : Addr} {fd : FuncData} {ps : List Str} {x : Str} {p pos : Pos} {e : Expr} {es : List Expr} {f : List D → Out} {g : Rho → R (List D)} (F : FnOk X.prog X.w X.K X.mg X.base (L2.CX X.prog X.w) k fa fd ps (spM X.K c.ns X.mg f)) (tk : L2.Takes X V) (hr : Room k X.A) (hg : Gl X x) (hm : X.mg x = some (.ref fa)) (hk : PySem.W.keepIn X.K (.ref fa) = true) (hb : Binds X.K fd ps [])
    (ha : MA X c (wm X.mg V) (e :: es) g) (hdb : (x == ("__debug__" : Str)) = false := by decide) (he : starEach (e :: es) X.env = (false, eval e X.env) :: starEach es X.env := by rfl) (hpl : (backTo pos (starEach es X.env)).any (·.1) = false := by rfl) :
    ME X c (wm X.mg V) (.Call (.Name x p) (e :: es) [] pos) (call f g) :=
  PE.imp (L2.pe_callS F hr hg hm hk hb (fun σ => L2.passAt tk σ) ha hdb he hpl) fun σ H Qk ⟨G, ρ, ok, p⟩ => step ok p fun ds G1 H1 vs _ g1 r1 ok1 p1 => by
    refine ⟨G1, ds, ok1.s, r1, ?_⟩
    cases e : f ds with
    | rt x => rw [e] at p1; exact p1
    | rf xs =>
      rw [e] at p1
      exact fun G' H' a us g n h1 h2 q => p1 (upd G' a (.lst us)) H' _ (g.seal n h1 h2) (.lst upd_same (QA.mono (new_same h2) _ _ q))
    | rz z ρ' => rw [e] at p1; exact fun G' H' g C hC => p1 G' H' g C hC
    | _ => rw [e] at p1; exact p1.elim
theorem mn_callX {k : Nat} {fa : Addr} {fd : FuncData} {ps : List Str} {x : Str} {p pos : Pos} {e : Expr} {es : List Expr} {f : List D → Out} {g : Rho → R (List D)} (F : FnOk X.prog X.w X.K X.mg X.base (L2.CX X.prog X.w) k fa fd ps (spM X.K c.ns X.mg f)) (tk : L2.Takes X V) (hr : Room k X.A) (hg : Gl X x) (hm : X.mg x = some (.ref fa)) (hk : PySem.W.keepIn X.K (.ref fa) = true) (hb : Binds X.K fd ps [])
    (ha : MA X c (wm X.mg V) (e :: es) g) (hdb : (x == ("__debug__" : Str)) = false := by decide) (he : starEach (e :: es) X.env = (false, eval e X.env) :: starEach es X.env := by rfl) (hpl : (backTo pos (starEach es X.env)).any (·.1) = false := by rfl) :
    MN X c (wm X.mg V) (.Call (.Name x p) (e :: es) [] pos) (ncall f g) :=
  PE.imp (L2.pe_callS F hr hg hm hk hb (fun σ => L2.passAt tk σ) ha hdb he hpl) fun σ H Qk ⟨G, ρ, ok, p⟩ => stepN ok p fun ds G1 H1 vs _ g1 r1 ok1 p1 => by
    refine ⟨G1, ds, ok1.s, r1, ?_⟩
    cases e : f ds with
    | rt x => rw [e] at p1; exact fun G' H' v g q => p1 G' H' v g q
    | rf xs =>
      rw [e] at p1
      exact fun G' H' a us g n h1 h2 q => p1 G' H' _ g ⟨a, us, rfl, h1, h2, n, q⟩
    | rz z ρ' => rw [e] at p1; exact fun G' H' g C hC => p1 G' H' g C hC
    | _ => rw [e] at p1; exact p1.elim
end
section
variable {X : Cx} {c : Cm} {W : WM}
/-- a call out of which nothing is raised, whatever is wished -/
theorem me_call0 {k : Nat} {fa : Addr} {fd : FuncData} {ps : List Str} {x : Str} {p pos : Pos} {e : Expr} {es : List Expr} {f : List D → Out} {g : Rho → R (List D)} (F : FnOk X.prog X.w X.K X.mg X.base CX0 k fa fd ps (spM X.K c.ns X.mg f)) (hr : Room k X.A) (hg : Gl X x) (hm : X.mg x = some (.ref fa)) (hk : PySem.W.keepIn X.K (.ref fa) = true) (hb : Binds X.K fd ps [])
    (ha : MA X c W (e :: es) g) (hdb : (x == ("__debug__" : Str)) = false := by decide) (he : starEach (e :: es) X.env = (false, eval e X.env) :: starEach es X.env := by rfl) (hpl : (backTo pos (starEach es X.env)).any (·.1) = false := by rfl) :
    ME X c W (.Call (.Name x p) (e :: es) [] pos) (call f g) :=
  PE.imp (L2.pe_callS (E := fun _ _ _ _ => True) F hr hg hm hk hb (fun σ pins H s e s' I h => (show False from h).elim) ha hdb he hpl) fun σ H Qk ⟨G, ρ, ok, p⟩ => step ok p fun ds G1 H1 vs _ g1 r1 ok1 p1 => by
    refine ⟨G1, ds, ok1.s, r1, ?_⟩
    cases e : f ds with
    | rt x => rw [e] at p1; exact p1
    | rf xs =>
      rw [e] at p1
      exact fun G' H' a us g n h1 h2 q => p1 (upd G' a (.lst us)) H' _ (g.seal n h1 h2) (.lst upd_same (QA.mono (new_same h2) _ _ q))
    | rz z ρ' => exact fun _ _ _ _ _ => trivial
    | _ => rw [e] at p1; exact p1.elim
theorem mn_call0 {k : Nat} {fa : Addr} {fd : FuncData} {ps : List Str} {x : Str} {p pos : Pos} {e : Expr} {es : List Expr} {f : List D → Out} {g : Rho → R (List D)} (F : FnOk X.prog X.w X.K X.mg X.base CX0 k fa fd ps (spM X.K c.ns X.mg f)) (hr : Room k X.A) (hg : Gl X x) (hm : X.mg x = some (.ref fa)) (hk : PySem.W.keepIn X.K (.ref fa) = true) (hb : Binds X.K fd ps [])
    (ha : MA X c W (e :: es) g) (hdb : (x == ("__debug__" : Str)) = false := by decide) (he : starEach (e :: es) X.env = (false, eval e X.env) :: starEach es X.env := by rfl) (hpl : (backTo pos (starEach es X.env)).any (·.1) = false := by rfl) :
    MN X c W (.Call (.Name x p) (e :: es) [] pos) (ncall f g) :=
  PE.imp (L2.pe_callS (E := fun _ _ _ _ => True) F hr hg hm hk hb (fun σ pins H s e s' I h => (show False from h).elim) ha hdb he hpl) fun σ H Qk ⟨G, ρ, ok, p⟩ => stepN ok p fun ds G1 H1 vs _ g1 r1 ok1 p1 => by
    refine ⟨G1, ds, ok1.s, r1, ?_⟩
    cases e : f ds with
    | rt x => rw [e] at p1; exact fun G' H' v g q => p1 G' H' v g q
    | rf xs =>
      rw [e] at p1
      exact fun G' H' a us g n h1 h2 q => p1 G' H' _ g ⟨a, us, rfl, h1, h2, n, q⟩
    | rz z ρ' => exact fun _ _ _ _ _ => trivial
    | _ => rw [e] at p1; exact p1.elim
theorem mss_nox {b : List Stmt} {f : Rho → Out} (h : MSs X.nox c W b f) : MSs X c W b f := PSs.nox h
end
/-- a def that may raise -/
theorem fnOkX {P : Program} {w : World} {K : PySem.W.Frag} {mg : Str → Option Value} {base : Heap} {x qual : Str} {st : Stmt} {f : Addr} {fd : FuncData} {N ps : List Str} {k : Nat} {ns : Sc} {body : Rho → Out} (F : Fun K x qual st f fd) (S : FnScope N ps (defScope st))
    (hb : ∀ (cdv : Value) (A : Around) (outer : List Env) (s : Shared) (H : Hp) (E : XK) (c : Cm), c.ns = ns → Room k (A.deeper (envOfC qual (defScope st) s.heap.objs.size f cdv)) → MSs (cxOf (L2.CX P w) P w K mg base N qual (defScope st) f cdv A outer s H E) c (wm mg fun cls d _ H' => E cls d H') (defBody st) body) :
    FnOk P w K mg base (L2.CX P w) (k + 1) f fd ps (spM K ns mg (fnM ps.length N.length body)) := by
  refine F.okX S (fun vs H Qk E h => ?_) (fun cdv A outer s H vs Qk E hr h => ?_)
  · obtain ⟨G, ds, s, q, h⟩ := h
    unfold fnM at h
    by_cases hl : ds.length = ps.length
    · rw [q.length, hl]
    · rw [if_neg hl] at h; exact h.elim
  · obtain ⟨G, ds, s', q, h⟩ := h
    refine ⟨_, hb cdv A outer s H E ⟨ns, G, H⟩ rfl hr, G, _, start_ok s' q, ?_⟩
    unfold fnM at h
    by_cases hl : ds.length = ps.length
    · rw [if_pos hl] at h
      cases e : body (ds.map .d ++ List.replicate (N.length - ds.length) .no) with
      | nx ρ =>
        rw [e] at h
        exact fun G' H' σ s ok => h G' H' _ ok.e .non
      | rt x => rw [e] at h; exact fun G' H' v g q => h G' H' v g q
      | rf x => rw [e] at h; exact fun G' H' a us g n h1 h2 q => h G' H' a us g n h1 h2 q
      | rz z ρ => rw [e] at h; exact fun G' H' σ s ok C hC => h G' H' ok.e C hC
      | bk ρ => rw [e] at h; exact h.elim
      | ct ρ => rw [e] at h; exact h.elim
      | bad => rw [e] at h; exact h.elim
    · rw [if_neg hl] at h; exact h.elim
end M

/-! the refusal that a def got, its class told -/
namespace M
open PySem PySem.Spec PyProof.Rows L2
section
variable {X : Cx}
/-- isinstance(e, c) where e's object is pinned -/
theorem call_isP {a D : Addr} {oe : Obj} (hp : (a, oe) ∈ X.pn) (C : ExcC X.K D) (hz : Zc (.ref D) none oe) (hf : ∃ vs, oe.data = .fields vs) : CallR X (.builtin "isinstance") (rIsE X.K D a) := fun pins s σ H xs us Q I r h => by
  obtain ⟨cc, cv, b, rfl, hcv, e, q⟩ := h
  obtain ⟨u1, u2, rfl, ra, rc⟩ := Vals.two r
  cases ra
  obtain rfl := hcv _ rc
  have hget := (I.pin (a, oe) (List.mem_append_left _ hp)).1
  obtain ⟨vs, hv⟩ := hf
  have J : PySem.W.InstAt s.heap a oe D none := by
    obtain ⟨oc, od, oda, osl⟩ := oe
    have h1 : oc = .ref D := hz.1
    have h2 : od = none := hz.2
    have h3 : oda = .fields vs := hv
    subst h1 h2 h3
    exact ⟨hget, rfl, rfl, trivial⟩
  exact PySem.W.kia_one (PySem.W.handS_kitx_exc C.hg C.hk C.hs C.hd C.ha C.hn C.ht C.hm) I.kIn J e (fun z => nomatch z) fun tk => ⟨.bl b, H, I.kept (t' := tk) fun _ _ z => z, rfl, q⟩
/-- l.count(x), flat -/
def rCountF (K : PySem.W.Frag) : V → List V → Hp → VK → Prop := fun x xs H Q => ∃ (a : Addr) (ys : List V) (y : V), x = V.ref a ∧ xs = [y] ∧ SqL K H a ys ∧ flatV y = true ∧ ys.all flatV = true ∧ Q (.int ((ys.filter fun z => eqV z y).length : Nat)) H
theorem count_eq {y : V} : ∀ {ys : List V} {us : List Value}, Vals ys us → ys.all flatV = true → us.countP (eqU y) = (ys.filter fun z => eqV z y).length
  | _, _, .nil, _ => rfl
  | z :: ys, u :: us, .cons r t, f => by
    rw [List.all_cons, Bool.and_eq_true] at f
    have ih := count_eq (y := y) t f.2
    rw [List.countP_cons, List.filter_cons, ih, eqU_of r f.1]
    cases eqV z y <;> simp
theorem mt_countF : MtR X "list.count" (rCountF X.K) := fun pins s σ H x xs v us Q I rx rxs h => by
  obtain ⟨a, ys, y, rfl, rfl, hs, fy, fys, q⟩ := h
  cases rx
  obtain ⟨u, rfl, ru⟩ := Vals.one rxs
  obtain ⟨its, rv, ⟨⟨cls, dd, data, sl⟩, n, ho, hc, hdn, hd⟩, hlen⟩ := I.list hs
  simp only at hc hd
  subst hc hd
  refine call_meets PySem.F.slot_list_count ⟨_, ho, rfl⟩ PySem.F.entry_list_count (PySem.F.args_list_count_2 _ _) (SeqAt.list_countAt a its.toArray n dd sl u (eqU y)) ⟨ho, fun w hw => mem_eqAt ru fy rv fys w (by simpa using hw), ?_⟩
  have ec := count_eq (y := y) rv fys
  refine ⟨.int ((ys.filter fun z => eqV z y).length : Nat), H, I.tok _, ⟨s.toks, ?_⟩, q⟩
  show Value.int ((its.toArray.toList.countP (eqU y) : Nat) : Int) s.toks = Value.int (((ys.filter fun z => eqV z y).length : Nat) : Int) s.toks
  rw [← ec]
end
/-- the names, and what is told of each -/
def kindN : List Str := ["NoBack", "NoNumber", "NoPlate", "NoRow", "NoText", "NoWheels"]
def kindT : List Str := ["no back", "no number", "no plate", "no row", "no text", "no wheels"]
/-- the class at D is the j-th of the six -/
structure ClsJ (K : PySem.W.Frag) (mg : Str → Option Value) (D : Addr) (j : Nat) : Prop where
  c : ExcC K D
  six : ∀ i, i < 6 → ∃ C, mg (kindN.getD i "") = some (.ref C) ∧ PySem.W.kitOne K (.ref D) (.ref C) = some (decide (i = j))
  ve : PySem.W.kitOne K (.ref D) (.type "ValueError") = some true
  lt : j < 6
theorem isiR {K : PySem.W.Frag} {D a C : Addr} {σ : L2.St} {H : Hp} {Q : VK} {b : Bool} (h0 : σ[0]? = some (some (.ref a))) (hk : PySem.W.kitOne K (.ref D) (.ref C) = some b) (q : Q (.bl b) H) : tCB (rIsE K D a) (tCons (tVar 0) (tCons (tC (V.ref C)) tNil)) σ H Q :=
  ⟨.ref a, h0, .ref C, .ref C, b, rfl, fun u r => r, hk, q⟩
theorem bt_ValueError : bootBuiltins "ValueError" = some (.type "ValueError") := by decide +kernel
def strC (x : Str) (p : Pos) : Expr := .Constant (.str x) 0 p
section
variable {X : Cx} {a D : Addr} {oe : Obj} {j : Nat}
theorem pe_isJ (hp : (a, oe) ∈ X.pn) (J : ClsJ X.K X.mg D j) (hz : Zc (.ref D) none oe) (hf : ∃ vs, oe.data = .fields vs) {p r s q : Pos} (h0 : PE X (.Name "kept" q) (tVar 0)) {C : Addr} {x : Str} (hg : X.mg x = some (.ref C)) (gi : Gl X "isinstance") (zi : X.mg "isinstance" = none) (gx : Gl X x) (hd : (x == ("__debug__" : Str)) = false)
    (he : starEach [.Name "kept" q, .Name x r] X.env = (false, eval (.Name "kept" q) X.env) :: starEach [.Name x r] X.env := by rfl) (hpl : (backTo s (starEach [.Name x r] X.env)).any (·.1) = false := by rfl) (h2 : starEach [.Name x r] X.env = (false, eval (.Name x r) X.env) :: starEach [] X.env := by rfl) :
    PE X (.Call (.Name "isinstance" p) [.Name "kept" q, .Name x r] [] s) (tCB (rIsE X.K D a) (tCons (tVar 0) (tCons (tC (V.ref C)) tNil))) :=
  pe_callB (call_isP hp J.c hz hf) gi zi bt_isinstance (pa_cons h0 (pa_cons (pe_glob (v := .ref C) gx hg rfl hd) pa_nil h2) he) (by decide) (by decide) he hpl
/-- what is left of _law_class's reading: the slots kept, kinds -/
theorem class_read {K : PySem.W.Frag} {mg : Str → Option Value} (J : ClsJ K mg D j) {C0 C1 C2 C3 C4 C5 : Addr} (g0 : mg "NoBack" = some (.ref C0)) (g1 : mg "NoNumber" = some (.ref C1)) (g2 : mg "NoPlate" = some (.ref C2)) (g3 : mg "NoRow" = some (.ref C3)) (g4 : mg "NoText" = some (.ref C4)) (g5 : mg "NoWheels" = some (.ref C5)) :
    PySem.W.kitOne K (.ref D) (.ref C0) = some (decide (0 = j)) ∧ PySem.W.kitOne K (.ref D) (.ref C1) = some (decide (1 = j)) ∧ PySem.W.kitOne K (.ref D) (.ref C2) = some (decide (2 = j)) ∧ PySem.W.kitOne K (.ref D) (.ref C3) = some (decide (3 = j)) ∧ PySem.W.kitOne K (.ref D) (.ref C4) = some (decide (4 = j)) ∧ PySem.W.kitOne K (.ref D) (.ref C5) = some (decide (5 = j)) := by
  have key : ∀ i, i < 6 → ∀ C, mg (kindN.getD i "") = some (.ref C) → PySem.W.kitOne K (.ref D) (.ref C) = some (decide (i = j)) := fun i hi C hC => by
    obtain ⟨C', h1, h2⟩ := J.six i hi
    rw [h1] at hC
    cases hC
    exact h2
  exact ⟨key 0 (by decide) C0 g0, key 1 (by decide) C1 g1, key 2 (by decide) C2 g2, key 3 (by decide) C3 g3, key 4 (by decide) C4 g4, key 5 (by decide) C5 g5⟩
def kindsV (j : Nat) : List V := [.bl (decide (0 = j)), .bl (decide (1 = j)), .bl (decide (2 = j)), .bl (decide (3 = j)), .bl (decide (4 = j)), .bl (decide (5 = j))]
theorem kinds_facts (h : j < 6) : (kindsV j).all flatV = true ∧ ((kindsV j).filter fun z => eqV z (.bl true)).length = 1 ∧ (kindsV j)[j]? = some (.bl true) ∧ ∀ (m : Nat) (z : V), m < j → (kindsV j)[m]? = some z → eqV z (.bl true) = false := by
  have : j = 0 ∨ j = 1 ∨ j = 2 ∨ j = 3 ∨ j = 4 ∨ j = 5 := by omega
  rcases this with rfl | rfl | rfl | rfl | rfl | rfl <;> refine ⟨by decide, by decide, by decide, fun m z hm hz => ?_⟩
  · omega
  all_goals (
    have hm' : m = 0 ∨ m = 1 ∨ m = 2 ∨ m = 3 ∨ m = 4 := by omega
    rcases hm' with rfl | rfl | rfl | rfl | rfl <;> first | omega | (simp [kindsV] at hz; subst hz; rfl))
end
end M

/-! a def called within an except suite, its promise told of the very exception -/
namespace M
open PySem PySem.Spec PyProof.Rows L2
theorem run_ofP {CX : CXT} {P : Program} {w : World} {K : PySem.W.Frag} {mg : Str → Option Value} {base : Heap} {k : Nat} {f : Addr} {name qual : Str} {params : Arguments} {body : List Stmt} {scope : Scope} {dV kV doc pm cdv ct oc : Value} {an od : Option Addr} {osl : Array (Option Value)} {N ps : List Str}
    (hlk : K.lookup f = some ⟨oc, od, .func (PySem.W.fnOf name qual params body scope dV kV doc pm an cdv ct), osl⟩) (hcode : PySem.W.codeIn K cdv qual = true) (S : FnScope N ps scope) {A : Around} {outer : List Env} {s : Shared} {H : Hp} {args : Args} {us : List Value} {vs : List V} {Q : VK} {E : XK} {p : Addr × Obj}
    (hroom : L2H.RoomH (k + 1) A) (hpin : L2H.PinOk outer H s p) (e0 : Env0 P w K mg base A outer s H) (hbind : BindsTo s (PySem.W.fnOf name qual params body scope dV kV doc pm an cdv ct) args (ps.zip us)) (rv : Vals vs us) (hlen : vs.length = ps.length)
    (hbody : L2H.RoomH k (A.deeper (envOfC qual scope s.heap.objs.size f cdv)) → ∃ t, PSs (L2H.cxH CX P w K mg base N qual scope f cdv A outer s H E p) body t ∧ t { nx := fun _ H' => Q .non H', rt := Q } (L2.start N vs) H) :
    codeAny (model P w) A (.call (.ref f) args) (CR CX outer P w H s Q E) s := by
  have kin : K.In s.heap := e0.mod.kin.keeps fun b o z => (e0.bs b o z).1
  have nl : s.heap.NoLimit := e0.mod.nolimit.keeps fun b o z => (e0.bs b o z).1
  have kinds : ∀ y ∈ ps.zip us, scope.names.lookup y.1 = some .local ∨ (scope.names.lookup y.1 = some .cell ∧ ((cellsFrom (s.heap.objs.size + 1) scope.names []).lookup y.1).isSome = true) := fun ⟨n, v⟩ hy =>
    (S.par n (List.of_mem_zip hy).1).elim .inl fun q => .inr ⟨q, PySem.W.cellsFrom_some _ _ _ (.inl q)⟩
  refine codeAny_call_function hroom.depth (kin _ _ hlk) rfl S.co S.gen rfl (PySem.W.codeRec_of kin hcode) (hbind _ _ _ _ (wpAny_newFunctionEnv_cells S.kind kinds fun env he s1 x => ?_))
  subst he
  obtain ⟨t, ht, hq⟩ := hbody (hroom.deeper _)
  refine ⟨nl.keeps x.toInCall.keep, codeAny_func (wpAny_mono (ht.run [] s1 _ H _ (L2H.inv_startH S hpin e0 hlen rv x) hq) (fun fl s2 h2 => ?_) fun _ _ z => z)⟩
  cases fl with
  | ret u =>
    obtain ⟨v, σ2, H2, J, rel, hQ⟩ := h2
    exact ⟨v, H2, J.os, J.bare, J.base, J.hok, rel, hQ⟩
  | next =>
    obtain ⟨σ2, H2, J, hQ⟩ := h2
    exact ⟨V.non, H2, J.os, J.bare, J.base, J.hok, rfl, hQ⟩
  | brk => exact h2.choose_spec.choose_spec.2.elim
  | cont => exact h2.choose_spec.choose_spec.2.elim
/-- g(e), e in slot i the exception that the suite holds -/
theorem pe_pinned {X : Cx} {a f : Addr} {oe : Obj} {k i : Nat} {x y name qual : Str} {params : Arguments} {body : List Stmt} {scope : Scope} {dV kV doc pm cdv ct oc : Value} {an od : Option Addr} {osl : Array (Option Value)} {N : List Str} {n : Str} {p q pos : Pos} {R : VK → Hp → Prop}
    (hp : (a, oe) ∈ X.pn) (hroom : L2H.RoomH (k + 1) X.A) (hg : Gl X x) (hm : X.mg x = some (.ref f)) (hk : PySem.W.keepIn X.K (.ref f) = true) (hlk : X.K.lookup f = some ⟨oc, od, .func (PySem.W.fnOf name qual params body scope dV kV doc pm an cdv ct), osl⟩) (hcode : PySem.W.codeIn X.K cdv qual = true) (S : FnScope N [n] scope)
    (hb : L2.Binds X.K (PySem.W.fnOf name qual params body scope dV kV doc pm an cdv ct) [n] []) (he : PE X (.Name y q) (tVar i))
    (hbody : ∀ (s : Shared) (H : Hp) (Q : VK), R Q H → L2H.RoomH k (X.A.deeper (envOfC qual scope s.heap.objs.size f cdv)) → ∃ t, PSs (L2H.cxH CX0 X.prog X.w X.K X.mg X.base N qual scope f cdv X.A X.stack s H E0 (a, oe)) body t ∧ t { nx := fun _ H' => Q .non H', rt := Q } (L2.start N [.ref a]) H)
    (hdb : (x == ("__debug__" : Str)) = false := by decide) (h1 : starEach [.Name y q] X.env = (false, eval (.Name y q) X.env) :: starEach [] X.env := by rfl) (hpl : (backTo pos (starEach [] X.env)).any (·.1) = false := by rfl) :
    PE X (.Call (.Name x p) [.Name y q] [] pos) (fun σ H Q => σ[i]? = some (some (.ref a)) ∧ R Q H) := ⟨fun pins s σ H Q I h => by
  obtain ⟨h0, hR⟩ := h
  have ha : PA X [.Name y q] (tCons (tVar i) tNil) := pa_cons he pa_nil h1
  refine wpAny_Call_Name_kw (ld_glob I hg hm ?_ hdb)
  refine PySem.W.callWith_K (h₀ := X.base) I.ok.mod.kin hk (thn (ha.run pos pins s σ H (fun vs H1 => vs = [V.ref a] ∧ H1 = H) I ⟨.ref a, h0, rfl, rfl⟩) fun us s1 ⟨vs, H1, I1, r, ev, eH⟩ => ⟨I1.kIn, ?_⟩) h1 hpl
  subst ev eH
  obtain ⟨u, rfl, ru⟩ := Vals.one r
  cases ru
  have P1 := I1.pin (a, oe) (List.mem_append_left _ hp)
  have hpin : L2H.PinOk X.stack H1 s1 (a, oe) := ⟨P1.1, P1.2.1, fun hx => (List.mem_cons.mp (I1.stkSub a hx)).elim P1.2.2.1 P1.2.2.2.1, P1.2.2.2.2⟩
  have b := hb s1 [.ref a] I1.kIn rfl
  refine wpAny_call (codeAny_mono (run_ofP (CX := CX0) (E := E0) (Q := Q) (vs := [V.ref a]) (us := [Value.ref a]) hlk hcode S hroom hpin I1.env0 b (.cons rfl .nil) rfl (hbody s1 H1 Q hR)) fun r s' hq => ?_)
  cases r with
  | error e => exact (show False from hq).elim
  | ok fl =>
    cases fl with
    | ret u => exact I1.after hq
    | next => exact hq.elim
    | brk => exact hq.elim
    | cont => exact hq.elim⟩
end M

/-! x(lambda: ..), the heap behind the lambda told -/
namespace M
open PySem PySem.Spec PyProof.Rows L2 LamX
/-- the heap behind a lambda that was made: as it was, or its code object in the maker's table -/
theorem among_line {pos p' : Pos} {c cv : Value} (l : List Value) (h : TriplesOk l) (hc : codeAmong p' (l ++ [rawInt pos.line, rawInt pos.col, c]) = some cv) : codeAmong p' l = some cv ∨ (cv = c ∧ p'.line = pos.line) :=
  (NdefX.among_app2 l h hc).imp_right fun z => ⟨z.1, z.2.1.symm⟩
def Grow (H H1 : Hp) (P : Addr) (q : Str) : Prop := H1 = H ∨ ∃ ps more c', H P = some (.tbl ps) ∧ H c' = none ∧ H1 = upd (upd H P (.tbl (ps ++ more))) c' (CodeO c' q) ∧ TabQ H1 P
theorem Grow.ext {H H1 : Hp} {P : Addr} {q : Str} (g : Grow H H1 P q) : ExtN H H1 := by
  rcases g with rfl | ⟨ps, more, c', h1, h2, rfl, _⟩
  · exact ExtN.refl _
  · exact fun b o e n => by
      have nb : b ≠ P := fun z => n ps (Option.some.inj (e.symm.trans (z ▸ h1)))
      rw [upd_ne (ne_of_none e h2), upd_ne nb]
      exact e
theorem Grow.tab {H H1 : Hp} {P P' : Addr} {q : Str} (g : Grow H H1 P q) (t : TabQ H P') : TabQ H1 P' := by
  have ge := g.ext
  rcases g with rfl | ⟨ps, more, c', h1, h2, e, h3⟩
  · exact t
  · by_cases hP : P' = P
    · rw [hP]; exact h3
    · obtain ⟨qs, t1, t2, t3⟩ := t
      refine ⟨qs, ?_, t2, fun pos cv hc => ?_⟩
      · rw [e, upd_ne (ne_of_none t1 h2), upd_ne hP]
        exact t1
      · obtain ⟨d, d1, d2⟩ := t3 pos cv hc
        exact ⟨d, d1, ge _ _ d2 codeO_ne⟩
section
variable {X : Cx} {pins : List (Addr × Obj)} {σ : L2.St} {H : Hp} {s : Shared}
theorem lam_made {c P : Addr} {params : Arguments} {body : Expr} {scope : Scope} {pos : Pos} {E : Value → Shared → Prop} {Q : Value → Shared → Prop} (I : Inv X pins σ H s) (TB : TabB X.base X.mg c P) (hcode : X.env.code = .ref c) (hT : TabQ H P) (hqo : qof pos = X.env.qual ++ "<lambda>")
    (hdef : defaultsOf params X.env = ([], [])) (hfree : ∀ y ∈ scope.names, y.2 = .free → ∃ c, X.env.cells.lookup y.1 = some c)
    (h : ∀ (f c' : Addr) (pm ctv : Value) (H1 : Hp) (s' : Shared), Inv X pins σ H1 s' → Grow H H1 P (X.env.qual ++ "<lambda>") →
      s'.heap.get? f = some (PySem.W.kla_obj "<lambda>" (X.env.qual ++ "<lambda>") params body scope (cloFrom X.env.cells scope.names []) pm c' ctv) → H1 f = none → f ∉ frs X.stack → H1 c' = some (CodeO c' (X.env.qual ++ "<lambda>")) → Q (.ref f) s') :
    wpAny (model X.prog X.w) X.A (eval (.Lambda params body scope pos) X.env) Q E s := by
  obtain ⟨ps, hP, ht, ha⟩ := hT
  have outF : ∀ f, s.heap.objs.size ≤ f → f ∉ frs X.stack := fun f old m => (List.mem_cons.mp (I.stkSub f m)).elim (fun e => Nat.not_lt.mpr old (e ▸ I.lt)) (I.nofs old)
  have bP := TB.bm.keeps I.bk
  have atP : s.heap.get? P = some { cls := .none, data := .fields ps } := I.hok P _ hP
  refine PySem.W.kla_eval hdef ?_
  cases hc : codeAmong pos ps.toList with
  | some cv =>
    obtain ⟨c', e, hco⟩ := ha pos cv hc
    rw [hqo] at hco
    subst e
    refine PySem.W.kla_makeFunctionHit (mg := X.mg) (c := c) (P := P) (ps := ps) (closure_ok hfree) I.ok.glob (I.mod.glob.keeps I.bk) hcode (TB.code.keeps I.bk) atP ht hc bP fun ctv h' tk hx hsz => ?_
    exact h h'.objs.size c' ((X.mg "__name__").getD .none) ctv H _ (I.kept (t' := tk) fun b o e => Heap.get?_push_of_some _ (hx b o e)) (.inl rfl) (Heap.get?_push_size _ rfl) (I.hok.fresh hsz) (outF _ hsz) hco
  | none =>
    refine PySem.W.kla_makeFunction (mg := X.mg) (c := c) (P := P) (ps := ps) (closure_ok hfree) I.ok.glob (I.mod.glob.keeps I.bk) hcode (TB.code.keeps I.bk) atP ht hc TB.gP bP fun c' ctv h' tk hx hge hlt hrec htb => ?_
    have nC : H c' = none := I.hok.fresh hge
    have hsz := Nat.le_trans hge (Nat.le_of_lt hlt)
    obtain ⟨c2, oc, vs, t, same, hoc, hd, hv⟩ := hrec
    obtain rfl : c' = c2 := Value.ref.inj same
    have J := inv_table (t' := tk) (q := X.env.qual ++ "<lambda>") (more := #[rawInt pos.line, rawInt pos.col, .ref c']) (h' := h'.push (PySem.W.kla_obj "<lambda>" (X.env.qual ++ "<lambda>") params body scope (cloFrom X.env.cells scope.names []) ((X.mg "__name__").getD .none) c' ctv)) I hP (fun b o hb e => Heap.get?_push_of_some _ (hx b o hb e)) (Heap.get?_push_of_some _ htb) hge ⟨oc, vs, t, Heap.get?_push_of_some _ hoc, hd, hv⟩
    have keepN : ExtN H (upd (upd H P (.tbl (ps ++ #[rawInt pos.line, rawInt pos.col, .ref c']))) c' (CodeO c' (X.env.qual ++ "<lambda>"))) := fun b o e n => by
      have nb : b ≠ P := fun z => n ps (Option.some.inj (e.symm.trans (z ▸ hP)))
      rw [upd_ne (ne_of_none e nC), upd_ne nb]
      exact e
    have lst : (ps ++ #[rawInt pos.line, rawInt pos.col, .ref c']).toList = ps.toList ++ [rawInt pos.line, rawInt pos.col, .ref c'] := by simp
    have tab : TabQ (upd (upd H P (.tbl (ps ++ #[rawInt pos.line, rawInt pos.col, .ref c']))) c' (CodeO c' (X.env.qual ++ "<lambda>"))) P := by
      refine ⟨_, by rw [upd_ne (ne_of_none hP nC), upd_same], by rw [lst]; exact PySem.TriplesOk_snoc _ _ _ _ ht, fun p' cv hcv => ?_⟩
      rw [lst] at hcv
      rcases among_line _ ht hcv with z | ⟨z, zl⟩
      · obtain ⟨d, d1, d2⟩ := ha p' cv z
        exact ⟨d, d1, keepN _ _ d2 codeO_ne⟩
      · have : qof p' = X.env.qual ++ "<lambda>" := by
          rw [← hqo]
          unfold qof
          rw [zl]
        rw [this]
        exact ⟨c', z, upd_same⟩
    refine h h'.objs.size c' ((X.mg "__name__").getD .none) ctv _ _ J (.inr ⟨ps, _, c', hP, nC, rfl, tab⟩) (Heap.get?_push_size _ rfl) ?_ (outF _ hsz) upd_same
    have hlt2 : P < h'.objs.size := Nat.lt_of_lt_of_le (Heap.lt_size atP) hsz
    rw [upd_ne (Nat.ne_of_gt hlt), upd_ne (Nat.ne_of_gt hlt2)]
    exact I.hok.fresh hsz
/-- a lambda that takes nothing -/
abbrev NoArgs (params : Arguments) (body : Expr) (scope : Scope) : Prop := ∀ (q : Str) (cl : List (Str × Addr)) (pm cv ctv : Value), bindArgs (PySem.W.kla_fn "<lambda>" q params body scope cl pm cv ctv) ⟨[], []⟩ = pure []
/-- x, at g, is a def of one parameter a -/
structure Fun1 (X : Cx) (x a : Str) (g : Addr) (pg : Arguments) (bg : List Stmt) (sg : Scope) (cdv oc : Value) (od : Option Addr) (osl : Array (Option Value)) (dV kV doc pm ct : Value) (an : Option Addr) (Ng : List Str) : Prop where
  obj : X.K.lookup g = some ⟨oc, od, .func (PySem.W.fnOf x x pg bg sg dV kV doc pm an cdv ct), osl⟩
  code : PySem.W.codeIn X.K cdv x = true
  binds : L2.Binds X.K (PySem.W.fnOf x x pg bg sg dV kV doc pm an cdv ct) [a] []
  scope : FnScope Ng [a] sg
  first : Ng[0]? = some a
  seen : Vis sg a
/-- what is wished of x(lambda: ..) -/
def tLamM (P : Addr) (q : Str) (TT : (XK → Hp → VK → Prop) → Hp → VK → Prop) (t : XK → TE) : TE := fun σ H Q => TabQ H P ∧ ∀ H1, Grow H H1 P q → TT (fun E H' Q' => t E σ H' Q') H1 Q
theorem pe_lamM {TT : (XK → Hp → VK → Prop) → Hp → VK → Prop} {x a : Str} {g c P : Addr} {k : Nat} {pg : Arguments} {bg : List Stmt} {sg : Scope} {dV kV doc pm cdv ct oc : Value} {an od : Option Addr} {osl : Array (Option Value)} {Ng : List Str}
    {t : XK → TE} {params : Arguments} {body : Expr} {scope : Scope} {p lpos pos : Pos} (hg : Gl X x) (hm : X.mg x = some (.ref g)) (hk : PySem.W.keepIn X.K (.ref g) = true) (F : Fun1 X x a g pg bg sg cdv oc od osl dV kV doc pm ct an Ng)
    (hG : GivesTo X Ng x sg g cdv bg a (X.env.qual ++ "<lambda>") TT) (TB : TabB X.base X.mg c P) (hcode : X.env.code = .ref c) (hqo : qof lpos = X.env.qual ++ "<lambda>") (hr : Room (k + 2) X.A) (L : LamS X.env.scope scope) (hdef : defaultsOf params X.env = ([], []))
    (hbind : NoArgs params body scope)
    (hbody : ∀ (A : Around) (outer : List Env) (s : Shared) (H : Hp) (E : XK) (f c' : Addr), Room k (A.deeper (lamEnv X scope s.heap.objs.size f c')) → PE (lamCx X A outer s H E scope f c') body (t E))
    (hdb : (x == ("__debug__" : Str)) = false := by decide) (hd : (a == ("__debug__" : Str)) = false := by decide) (hcd : (a == ("__classdict__" : Str)) = false := by decide) :
    PE X (.Call (.Name x p) [.Lambda params body scope lpos] [] pos) (tLamM P (X.env.qual ++ "<lambda>") TT t) := ⟨fun pins s σ H Q I h => by
  obtain ⟨hT, hgo⟩ := h
  refine wpAny_Call_Name_kw (ld_glob I hg hm (PySem.W.callWith_K (h₀ := X.base) I.ok.mod.kin hk ?_ (by rfl) (by rfl)) hdb)
  show wpAny _ _ (spliced ((false, eval (.Lambda params body scope lpos) X.env) :: backTo pos (starEach [] X.env))) _ _ s
  refine Calls.spliced_cons (lam_made I TB hcode hT hqo hdef (L.has I.ok) fun f c' pm' ctv H1 s' J grow hf hfn hfr hco => Calls.spliced_nil ⟨J.kIn, ?_⟩)
  have run : codeAny (model X.prog X.w) X.A (.call (.ref g) ⟨[.ref f], []⟩) (CR C8.CX0 X.stack X.prog X.w H1 s' Q C8.E0) s' := by
    refine run_ofS (N := Ng) (ps := [a]) (us := [.ref f]) (vs := [.ref f]) F.obj F.code F.scope hr J.env0 (F.binds s' [.ref f] J.kIn rfl) (.cons rfl .nil) rfl fun hr1 => ?_
    obtain ⟨t1, ht1, hq1⟩ := hG f c' s' H1 Q (fun E H' Q' => t E σ H' Q') (fun W pn xe E p1 p2 tk hW => pe_act (i := 0) J L hf hfn hfr (hbind _ _ _ _ _) tk hW hr1 (fun A outer s H hr2 => hbody A outer s H E f c' hr2) F.first F.seen hd hcd) hco (hgo H1 grow)
    exact ⟨t1, ht1.nox, hq1⟩
  refine wpAny_call (codeAny_mono run fun r s2 hq => ?_)
  cases r with
  | error e => exact (show False from hq).elim
  | ok fl =>
    cases fl with
    | ret u => exact J.after hq
    | next => exact hq.elim
    | brk => exact hq.elim
    | cont => exact hq.elim⟩
end
end M

/-! told(lambda: ..): what was answered, or the name of the refusal -/
namespace M
open PySem PySem.Spec PyProof.Rows L2 LamX
theorem Gr.grow {G H H1 : Hp} {P : Addr} {q : Str} (s : Sub G H) (g : Grow H H1 P q) : Gr G H G H1 :=
  ⟨Same.refl G, ⟨g.ext, fun _ t => g.tab t⟩, s.ex ⟨g.ext, fun _ t => g.tab t⟩, fun _ _ _ _ h => h⟩
theorem Gr.sameH {G H H' : Hp} (s : Sub G H) (e : Same H H') : Gr G H G H' := ⟨Same.refl G, .of e, s.ex (.of e), fun _ _ _ _ h => h⟩
/-- what is wished of the lambda's body -/
def TTc (K : PySem.W.Frag) (mg : Str → Option Value) (CS : Addr) : (XK → Hp → VK → Prop) → Hp → VK → Prop := fun tl H Q =>
  tl (fun cls d H' => ∃ D j, cls = .ref D ∧ d = none ∧ ClsJ K mg D j ∧ PySem.W.exmOne K cls (.ref CS) = some true ∧ ∀ H'', Same H' H'' → Q (.str (kindT.getD j "")) H'') H Q
def toldE (zs : List Str) (f : Rho → R D) : Rho → R D := fun ρ => match f ρ with
  | .ok d => .ok d
  | .rz z => if z ∈ zs then .ok (.str (kindT.getD (kindN.idxOf z) "")) else .bad
  | .bad => .bad
/-- the room of a suite -/
theorem roomS {k : Nat} {A : Around} {env : Env} {a : Addr} (r : Room (k + 1) A) : L2H.RoomH k ((A.deeper env).mark (some (.ref a))) :=
  ⟨by have := r.dp; show A.depth + 1 + 3 * k + 5 < recursionLimit; omega, by have := r.un; show A.units + 3 + 16 * k + 200 < cLine; omega⟩
section
variable {X : Cx}
theorem told_gv {sg : Scope} {g CS fC : Addr} {cdg : Value} {q : Str} {p1 p2 p3 p4 p5 p6 p7 p8 p9 p10 : Pos} {params : Arguments} {body : List Stmt} {scope : Scope} {dV kV doc pm cdv ct oc : Value} {an od : Option Addr} {osl : Array (Option Value)} {N : List Str}
    (hge : sg.names.lookup ("TrackError" : Str) = some .globalImplicit) (hgc : sg.names.lookup ("_law_class" : Str) = some .globalImplicit) (hle : sg.names.lookup ("e" : Str) = some .local) (hme : X.mg "TrackError" = some (.ref CS))
    (hmc : X.mg "_law_class" = some (.ref fC)) (hkc : PySem.W.keepIn X.K (.ref fC) = true) (hlk : X.K.lookup fC = some ⟨oc, od, .func (PySem.W.fnOf "_law_class" "_law_class" params body scope dV kV doc pm an cdv ct), osl⟩) (hcode : PySem.W.codeIn X.K cdv "_law_class" = true) (S : FnScope N ["kept"] scope)
    (hb : L2.Binds X.K (PySem.W.fnOf "_law_class" "_law_class" params body scope dV kV doc pm an cdv ct) ["kept"] []) (hr : Room 3 X.A)
    (hbody : ∀ (a : Addr) (oe : Obj) (Dd : Addr) (j : Nat) (A : Around) (outer : List Env) (s : Shared) (H : Hp) (Q : VK), ClsJ X.K X.mg Dd j → Zc (.ref Dd) none oe → (∃ vs, oe.data = .fields vs) → (∀ H', Same H H' → Q (.str (kindT.getD j "")) H') → L2H.RoomH 1 (A.deeper (envOfC "_law_class" scope s.heap.objs.size fC cdv)) →
      ∃ t, PSs (L2H.cxH CX0 X.prog X.w X.K X.mg X.base N "_law_class" scope fC cdv A outer s H E0 (a, oe)) body t ∧ t { nx := fun _ H' => Q .non H', rt := Q } (L2.start N [.ref a]) H) :
    GivesTo X ["deed", "e"] "_law_told" sg g cdg [.Try [.Return (some (.Call (.Name "deed" p1) [] [] p2)) p3] [.ExceptHandler (some (.Name "TrackError" p4)) (some "e") [.Return (some (.Call (.Name "_law_class" p5) [.Name "e" p6] [] p7)) p8] p9] [] [] p10] "deed" q (TTc X.K X.mg CS) := by
  intro f c' s H Q tl act hc h
  have gl1 : Gl (cxOf C8.CX0 X.prog X.w X.K X.mg X.base ["deed", "e"] "_law_told" sg g cdg X.A X.stack s H C8.E0).nox "TrackError" := hge
  have nd : (["deed", "e"] : List Str).Nodup := by decide
  refine ⟨_, pss_one (L2.ps_try_as (X := (cxOf C8.CX0 X.prog X.w X.K X.mg X.base ["deed", "e"] "_law_told" sg g cdg X.A X.stack s H C8.E0).nox) (i := 1) (n := "e") (c := .ref CS)
      (tb := fun W D σ H => ∃ Ech : XK, (∀ cls d σ' H', Ech cls d H' → W cls d σ' H') ∧ σ[0]? = some (some (.ref f)) ∧ H c' = some (CodeO c' q) ∧ tl Ech H D.rt)
      (ts := fun a cls d D σ H => (σ.length = 2 → σ[1]? = some (some (.ref a))) ∧ ∃ Dd j, cls = .ref Dd ∧ d = none ∧ ClsJ X.K X.mg Dd j ∧ ∀ H', Same H H' → D.rt (.str (kindT.getD j "")) H')
      rfl rfl nd rfl hle ⟨gl1, by decide, .inl hme⟩ L2.takes0 (fun W pn xe tk _ => ?_) (fun a oe cls d pn hz hf => ?_)), ?_⟩
  · refine ⟨fun pins s' σ H' D I h' => ?_⟩
    obtain ⟨Ech, hW, h1, h2, h3⟩ := h'
    exact (pss_one (ps_ret (pos := p3) (act W pn xe Ech p1 p2 tk hW))).run pins s' σ H' D I ⟨h1, h2, h3⟩
  · have key : PSs ((cxOf C8.CX0 X.prog X.w X.K X.mg X.base ["deed", "e"] "_law_told" sg g cdg X.A X.stack s H C8.E0).nox.suite a ((a, oe) :: pn)) [.Return (some (.Call (.Name "_law_class" p5) [.Name "e" p6] [] p7)) p8] (fun D σ H => σ[1]? = some (some (.ref a)) ∧ ∃ Dd j, cls = .ref Dd ∧ d = none ∧ ClsJ X.K X.mg Dd j ∧ ∀ H', Same H H' → D.rt (.str (kindT.getD j "")) H') := ?key
    exact ⟨fun pins s' σ H' D I h' => key.run pins s' σ H' D I ⟨h'.1 I.len, h'.2⟩⟩
    refine pss_one (ps_ret (pe_pinned (X := (cxOf C8.CX0 X.prog X.w X.K X.mg X.base ["deed", "e"] "_law_told" sg g cdg X.A X.stack s H C8.E0).nox.suite a ((a, oe) :: pn)) (k := 1) (i := 1) (R := fun Qk H => ∃ Dd j, cls = .ref Dd ∧ d = none ∧ ClsJ X.K X.mg Dd j ∧ ∀ H', Same H H' → Qk (.str (kindT.getD j "")) H')
      List.mem_cons_self (roomS hr) hgc hmc hkc hlk hcode S hb (pe_var (i := 1) rfl (.inl hle) (by decide) (by decide)) fun s2 H2 Q2 hR hr2 => ?_))
    obtain ⟨Dd, j, e1, e2, J, hq⟩ := hR
    subst e1 e2
    exact hbody a oe Dd j _ _ s2 H2 Q2 J hz hf hq hr2
  · refine ⟨_, fun cls d σ' H' hE => ?_, rfl, hc, h⟩
    obtain ⟨Dd, j, e1, e2, J, ex, hq⟩ := hE
    refine ⟨true, ex, fun _ a ha => ⟨fun hl => ?_, Dd, j, e1, e2, J, hq⟩, fun z => Bool.noConfusion z⟩
    rw [List.getElem?_set_self (by rw [List.length_set] at hl; omega)]

theorem me_told {c : Cm} {W : WM} (zs : List Str) {CS g cc P : Addr} {k : Nat} {pg : Arguments} {bg : List Stmt} {sg : Scope} {dV kV doc pm cdv ct oc : Value} {an od : Option Addr} {osl : Array (Option Value)} {Ng : List Str}
    {params : Arguments} {body : Expr} {scope : Scope} {fB : Rho → R D} {p lpos pos : Pos} (hg : Gl X "_law_told") (hm : X.mg "_law_told" = some (.ref g)) (hk : PySem.W.keepIn X.K (.ref g) = true)
    (lk : X.K.lookup g = some ⟨oc, od, .func (PySem.W.fnOf "_law_told" "_law_told" pg bg sg dV kV doc pm an cdv ct), osl⟩) (hcg : PySem.W.codeIn X.K cdv "_law_told" = true) (hb : L2.Binds X.K (PySem.W.fnOf "_law_told" "_law_told" pg bg sg dV kV doc pm an cdv ct) ["deed"] []) (Sg : FnScope Ng ["deed"] sg) (hNg : Ng[0]? = some ("deed" : Str)) (hva : Vis sg "deed")
    (hG : GivesTo X Ng "_law_told" sg g cdv bg "deed" (X.env.qual ++ "<lambda>") (TTc X.K X.mg CS)) (hqo : qof lpos = X.env.qual ++ "<lambda>") (TB : TabB X.base X.mg cc P) (hcode : X.env.code = .ref cc) (hT : TabQ c.H0 P) (hr : Room (k + 2) X.A)
    (hz : ∀ z ∈ zs, ∀ C, X.mg z = some (.ref C) → ClsJ X.K X.mg C (kindN.idxOf z) ∧ PySem.W.exmOne X.K (.ref C) (.ref CS) = some true)
    (L : LamS X.env.scope scope) (hdef : defaultsOf params X.env = ([], [])) (hbind : ∀ (q : Str) (cl : List (Str × Addr)) (pm cv ctv : Value), bindArgs (PySem.W.kla_fn "<lambda>" q params body scope cl pm cv ctv) ⟨[], []⟩ = pure [])
    (hbody : ∀ (A : Around) (outer : List Env) (s : Shared) (H : Hp) (E : XK) (f c' : Addr), Room k (A.deeper (lamEnv X scope s.heap.objs.size f c')) → ME (lamCx X A outer s H E scope f c') c (wm X.mg fun cls d _ H' => E cls d H') body fB) :
    ME X c W (.Call (.Name "_law_told" p) [.Lambda params body scope lpos] [] pos) (toldE zs fB) := by
  refine PE.imp (pe_lamM (t := fun E => tR X.K c (wm X.mg fun cls d _ H' => E cls d H') (RelQ X.K c.ns) fB) hg hm hk ⟨lk, hcg, hb, Sg, hNg, hva⟩ hG TB hcode hqo hr L hdef hbind hbody) fun σ H Qk ⟨G, ρ, ok, p⟩ => ?_
  refine ⟨ok.e.h.tabs P hT, fun H1 grow => ?_⟩
  have gr := Gr.grow ok.s grow
  refine ⟨G, ρ, ok.gr gr, ?_⟩
  unfold toldE at p
  cases e : fB ρ with
  | ok d => rw [e] at p; exact fun G' H' v g q => p G' H' v (gr.trans g) q
  | bad => rw [e] at p; exact p
  | rz z =>
    rw [e] at p
    by_cases hzz : z ∈ zs
    · simp only [if_pos hzz] at p
      intro G' H' g C hC
      obtain ⟨J, ex⟩ := hz z hzz C hC
      exact ⟨C, _, rfl, rfl, J, ex, fun H'' sm => p G' H'' _ ((gr.trans g).trans (Gr.sameH g.s sm)) (.str _)⟩
    · simp only [if_neg hzz] at p
      exact p.elim
end
/-- a def that makes lambdas: its table is told -/
def spT (K : PySem.W.Frag) (ns : Sc) (mg : Str → Option Value) (P : Addr) (f : List D → Out) : Sp := fun vs H Qk E => TabQ H P ∧ spM K ns mg f vs H Qk E
theorem fnOkL {Pr : Program} {w : World} {K : PySem.W.Frag} {mg : Str → Option Value} {base : Heap} {k : Nat} {f cc P : Addr} {name qual : Str} {params : Arguments} {bd : List Stmt} {scope : Scope} {dV kV doc pm ct oc : Value} {an od : Option Addr} {osl : Array (Option Value)} {N ps : List Str} {ns : Sc} {body : Rho → Out}
    (lk : K.lookup f = some ⟨oc, od, .func (PySem.W.fnOf name qual params bd scope dV kV doc pm an (.ref cc) ct), osl⟩) (hcd : PySem.W.codeIn K (.ref cc) qual = true) (S : FnScope N ps scope)
    (hb : ∀ (A : Around) (outer : List Env) (s : Shared) (H : Hp) (E : XK) (c : Cm), c.ns = ns → TabQ c.H0 P → Room k (A.deeper (envOfC qual scope s.heap.objs.size f (.ref cc))) → MSs (cxOf CX0 Pr w K mg base N qual scope f (.ref cc) A outer s H E).nox c W0 bd body) :
    FnOk Pr w K mg base CX0 (k + 1) f (PySem.W.fnOf name qual params bd scope dV kV doc pm an (.ref cc) ct) ps (spT K ns mg P (fnM0 ps.length N.length body)) := by
  refine fn_of lk hcd S (fun vs H Qk E h => ?_) (fun A outer s H vs Qk E hr h => ?_)
  · obtain ⟨_, G, ds, s, q, h⟩ := h
    unfold fnM0 fnM at h
    by_cases hl : ds.length = ps.length
    · rw [q.length, hl]
    · rw [if_neg hl] at h; exact h.elim
  · obtain ⟨hT, G, ds, s', q, h⟩ := h
    refine ⟨_, (hb A outer s H E ⟨ns, G, H⟩ rfl hT hr).nox, G, _, start_ok s' q, ?_⟩
    unfold fnM0 fnM at h
    by_cases hl : ds.length = ps.length
    · rw [if_pos hl] at h
      cases e : body (ds.map .d ++ List.replicate (N.length - ds.length) .no) with
      | nx ρ =>
        rw [e] at h
        exact fun G' H' σ s ok => h G' H' _ ok.e .non
      | rt x => rw [e] at h; exact fun G' H' v g q => h G' H' v g q
      | rf x => rw [e] at h; exact fun G' H' a us g n h1 h2 q => h G' H' a us g n h1 h2 q
      | rz z ρ => rw [e] at h; exact h.elim
      | bk ρ => rw [e] at h; exact h.elim
      | ct ρ => rw [e] at h; exact h.elim
      | bad => rw [e] at h; exact h.elim
    · rw [if_neg hl] at h; exact h.elim
end M

namespace M
open PySem PySem.Spec PyProof.Rows L2
theorem ClsJ.six6 {K : PySem.W.Frag} {mg : Str → Option Value} {D : Addr} {j : Nat} (c : ExcC K D) (ve : PySem.W.kitOne K (.ref D) (.type "ValueError") = some true) (lt : j < 6) {C0 C1 C2 C3 C4 C5 : Addr} {b0 b1 b2 b3 b4 b5 : Bool}
    (g0 : mg "NoBack" = some (.ref C0)) (q0 : PySem.W.kitOne K (.ref D) (.ref C0) = some b0) (g1 : mg "NoNumber" = some (.ref C1)) (q1 : PySem.W.kitOne K (.ref D) (.ref C1) = some b1) (g2 : mg "NoPlate" = some (.ref C2)) (q2 : PySem.W.kitOne K (.ref D) (.ref C2) = some b2)
    (g3 : mg "NoRow" = some (.ref C3)) (q3 : PySem.W.kitOne K (.ref D) (.ref C3) = some b3) (g4 : mg "NoText" = some (.ref C4)) (q4 : PySem.W.kitOne K (.ref D) (.ref C4) = some b4) (g5 : mg "NoWheels" = some (.ref C5)) (q5 : PySem.W.kitOne K (.ref D) (.ref C5) = some b5)
    (hb : [b0, b1, b2, b3, b4, b5] = (List.range 6).map fun i => decide (i = j) := by decide) : ClsJ K mg D j := by
  have hh : b0 = decide (0 = j) ∧ b1 = decide (1 = j) ∧ b2 = decide (2 = j) ∧ b3 = decide (3 = j) ∧ b4 = decide (4 = j) ∧ b5 = decide (5 = j) := by
    simpa [List.range, List.range.loop] using hb
  obtain ⟨rfl, rfl, rfl, rfl, rfl, rfl⟩ := hh
  refine ⟨c, fun i hi => ?_, ve, lt⟩
  have : i = 0 ∨ i = 1 ∨ i = 2 ∨ i = 3 ∨ i = 4 ∨ i = 5 := by omega
  rcases this with rfl | rfl | rfl | rfl | rfl | rfl
  · exact ⟨C0, g0, q0⟩
  · exact ⟨C1, g1, q1⟩
  · exact ⟨C2, g2, q2⟩
  · exact ⟨C3, g3, q3⟩
  · exact ⟨C4, g4, q4⟩
  · exact ⟨C5, g5, q5⟩
end M

/-! a tuple display, its object told -/
namespace M
open PySem PySem.Spec PyProof.Rows L2 HT
section
variable {X : Cx} {c : Cm} {W : WM}
def tTupN (t : TA) : TE := fun σ H Q => t σ H fun xs H1 => xs.length ≤ sizeLine ∧ ∀ (o : Obj), o.cls = .type "tuple" → o.dict = none → ∀ p, H1 p = none → Q (.ref p) (upd H1 p (.frz o (.tup xs)))
theorem pe_tupN {es : List Expr} {t : TA} {k : Nat} {pos : Pos} (h : PA X es t) : PE X (.Tuple es k pos) (tTupN t) := by
  constructor
  intro pins s σ H Q I hq
  apply wpAny_Tuple_spliced
  refine thn (h.run pos pins s σ H _ I hq) fun us s1 ⟨xs, H1, I1, r, z, q⟩ => ⟨r.length ▸ z, ?_⟩
  exact Men.cut_laid I1 (o := .frz { cls := .type "tuple", data := .seq us.toArray } (.tup xs)) ⟨Heap.get?_push_size _ rfl, z, us, r, IsTup.new _ _⟩ (q _ rfl rfl)
def tupNE (g : Rho → R (List D)) : Rho → R D := fun ρ => (g ρ).bind fun xs => if xs.length ≤ 1000000 then R.of ((intsOf xs).map fun is => NT is) else .bad
theorem me_tupN {es : List Expr} {k : Nat} {pos : Pos} {g : Rho → R (List D)} (h : MA X c W es g) : ME X c W (.Tuple es k pos) (tupNE g) :=
  PE.imp (pe_tupN h) fun σ H Qk ⟨G, ρ, ok, p⟩ => step ok p fun xs G1 H1 vs _ g1 r1 ok1 p1 => by
    by_cases hl : xs.length ≤ 1000000
    · rw [if_pos hl] at p1
      refine ⟨by rw [r1.length]; exact sz hl, ?_⟩
      cases eb : intsOf xs with
      | none => rw [eb] at p1; exact p1.elim
      | some bs =>
        rw [eb] at p1
        rw [ints_eq eb] at r1
        rw [r1.ints_inv]
        exact newN ok1.s p1
    · rw [if_neg hl] at p1; exact p1.elim
end
end M

/-! stays(lambda: ..): a list is told, changed, and told again -/
namespace M
open PySem PySem.Spec PyProof.Rows L2 LamX
/-- a list that is no slot's is changed -/
theorem Gr.wr0 {G H G' H' : Hp} {a : Addr} {us ws : List V} (g : Gr G H G' H') (ha : H' a = some (.lst us)) (ga : G' a = none) (n : Nw H a) : Gr G H G' (upd H' a (.lst ws)) := by
  have hb : ∀ b o, b ≠ a → H' b = some o → upd H' a (.lst ws) b = some o := fun b o z e => by rw [upd_ne z]; exact e
  have hs : Sub G' (upd H' a (.lst ws)) := fun b o hg => ⟨hb b o (fun z => by subst z; rw [ga] at hg; cases hg) (g.s b o hg).1, (g.s b o hg).2⟩
  refine ⟨g.g, ⟨fun b o e2 ht => hb b o (fun z => by subst z; exact n o e2 ht) (g.h.keep b o e2 ht), fun T t => ?_⟩, hs, g.n⟩
  obtain ⟨ps, t1, t2, t3⟩ := g.h.tabs T t
  refine ⟨ps, hb _ _ (fun z => by rw [z, ha] at t1; cases t1) t1, t2, fun pos cv hc => ?_⟩
  obtain ⟨cc, c1, c2⟩ := t3 pos cv hc
  exact ⟨cc, c1, hb _ _ (fun z => by rw [z, ha] at c2; cases c2) c2⟩
theorem Ok.wr0 {K : PySem.W.Frag} {c : Cm} {G H : Hp} {ρ : Rho} {σ : L2.St} {a : Addr} {us ws : List V} (h : Ok K c G H ρ σ) (ha : H a = some (.lst us)) (ga : G a = none) (n0 : Nw c.H0 a) (hn : ∀ (j : Nat) (ys : List D), ρ[j]? = some (Sl.o ys) → σ[j]? ≠ some (some (V.ref a))) : Ok K c G (upd H a (.lst ws)) ρ σ := by
  have e := h.e.wr0 (ws := ws) ha ga n0
  refine ⟨e.s, e, h.len, fun j x e2 => ?_, h.dj⟩
  have := h.sl j x e2
  cases x with
  | no => trivial
  | d x => exact this
  | o ys =>
    obtain ⟨b, vs, e3, hb, gb, nb, qb⟩ := this
    exact ⟨b, vs, e3, by rw [upd_ne (fun z => hn j ys e2 (by rw [← z]; exact e3))]; exact hb, gb, nb, qb⟩
def tStays (K : PySem.W.Frag) (tl : Hp → VK → Prop) (f c' : Addr) (q : Str) : TS :=
  (tSeq (tAsg (fun σZ HZ Q => σZ[0]? = some (some (V.ref f)) ∧ HZ c' = some (CodeO c' q) ∧ tl HZ Q) (gName 1))
    (tSeq (tIfS (tNot (tB (tCB (rIsi K) (tCons (tVar 1) (tCons (tC (V.ty "list")) tNil))))) (tRet (tC (V.bl false))) tNext)
      (tSeq (tAsg (tCB (fun xs H Q => ∃ p ys, xs = [V.ref p] ∧ (SqL K H p ys ∨ SqT K H p ys) ∧ ∀ (l : Addr), H l = none → Q (V.ref l) (upd H l (HO.lst ys))) (tCons (tVar 1) tNil)) (gName 2))
        (tSeq (tDrop (tBM K "list" rAppend (tVar 1) (tCons (tC (V.str "?")) tNil)))
          (tRet (tOp (rEqD K) (fun σZ HZ Q => σZ[0]? = some (some (V.ref f)) ∧ HZ c' = some (CodeO c' q) ∧ tl HZ Q) (tVar 2)))))))
def TTs (K : PySem.W.Frag) : (XK → Hp → VK → Prop) → Hp → VK → Prop := fun tl H Q => ∀ (f c' : Addr) (q : Str), H c' = some (CodeO c' q) →
  tStays K (tl fun _ _ _ => False) f c' q { nx := fun _ H' => Q V.non H', rt := Q } (L2.start ["deed", "told", "kept"] [V.ref f]) H
def staysE (f : Rho → R Sl) : Rho → R D := fun ρ => match f ρ with
  | .ok (.o xs) => if xs.length < 1000000 then (match eqD (.list xs) (.list xs) with
    | some b => .ok (.bool b)
    | none => .bad) else .bad
  | _ => .bad
section
variable {X : Cx}
theorem stays_gv {sg : Scope} {g : Addr} {cdg : Value} {q qz : Str} {jf jq : Nat} {p3 p4 p5 p6 p7 p8 p9 p10 p11 p12 p13 p14 p15 p16 p17 p18 p19 p20 p21 p22 p23 p24 p25 p26 p27 p28 p29 : Pos}
    (hgi : sg.names.lookup ("isinstance" : Str) = some .globalImplicit) (hgl : sg.names.lookup ("list" : Str) = some .globalImplicit) (hd : sg.names.lookup ("deed" : Str) = some .local) (ht : sg.names.lookup ("told" : Str) = some .local) (hk : sg.names.lookup ("kept" : Str) = some .local)
    (zi : X.mg "isinstance" = none) (zl : X.mg "list" = none) (hr : Room 3 X.A) (hq : qz = "?") (ha1 : (p20.endLine == p22.line) = true) :
    GivesTo X ["deed", "told", "kept"] "_law_stays" sg g cdg
      [.Assign [.Name "told" p3] (.Call (.Name "deed" p4) [] [] p5) p6,
       .If (.UnaryOp .Not (.Call (.Name "isinstance" p7) [.Name "told" p8, .Name "list" p9] [] p10) p11) [.Return (some (.Constant (.bool false) jf p12)) p13] [] p14,
       .Assign [.Name "kept" p15] (.Call (.Name "list" p16) [.Name "told" p17] [] p18) p19,
       .Expr (.Call (.Attribute (.Name "told" p21) "append" p20) [.Constant (.str qz) jq p23] [] p22) p24,
       .Return (some (.Compare (.Call (.Name "deed" p25) [] [] p26) [.Eq] [.Name "kept" p27] p28)) p29] "deed" q (TTs X.K) := by
  intro f c' s H Q tl act hc h
  subst hq
  have nd : (["deed", "told", "kept"] : List Str).Nodup := by decide
  have A0 : ∀ pa pb, PE (cxOf C8.CX0 X.prog X.w X.K X.mg X.base ["deed", "told", "kept"] "_law_stays" sg g cdg X.A X.stack s H C8.E0).nox (.Call (.Name "deed" pa) [] [] pb) (fun σZ HZ Q => σZ[0]? = some (some (.ref f)) ∧ HZ c' = some (CodeO c' q) ∧ tl (fun _ _ _ => False) HZ Q) :=
    fun pa pb => act (fun _ _ _ _ => False) [] (fun _ _ => False) (fun _ _ _ => False) pa pb L2.takes0 (fun _ _ _ _ h => h)
  have hu : (cxOf C8.CX0 X.prog X.w X.K X.mg X.base ["deed", "told", "kept"] "_law_stays" sg g cdg X.A X.stack s H C8.E0).nox.A.units + 64 < cLine := by
    have := hr.un
    show X.A.units + 3 + 64 < cLine
    omega
  have v1 : ∀ pa, PE (cxOf C8.CX0 X.prog X.w X.K X.mg X.base ["deed", "told", "kept"] "_law_stays" sg g cdg X.A X.stack s H C8.E0).nox (.Name "told" pa) (tVar 1) := fun pa => pe_var (i := 1) rfl (.inl ht) (by decide) (by decide)
  have v2 : ∀ pa, PE (cxOf C8.CX0 X.prog X.w X.K X.mg X.base ["deed", "told", "kept"] "_law_stays" sg g cdg X.A X.stack s H C8.E0).nox (.Name "kept" pa) (tVar 2) := fun pa => pe_var (i := 2) rfl (.inl hk) (by decide) (by decide)
  exact ⟨_, (pss_cons (ps_set (i := 1) nd rfl (.inl ht) (A0 p4 p5)) (pss_cons (ps_if (pt_not (pt_val (pe_callB call_isi hgi zi bt_isinstance (pa_cons (v1 p8) (pa_cons (pe_bltn (v := .ty "list") hgl zl bt_list rfl) pa_nil))))) (pss_one (ps_ret pe_bl)) pss_nil)
    (pss_cons (ps_set (i := 2) nd rfl (.inl hk) (pe_callTy call_list_of hgl zl bt_list (pa_cons (v1 p17) pa_nil)))
    (pss_cons (ps_expr (pe_bm PySem.F.plainAttrs_list PySem.F.slot_list_append PySem.F.type_list_append mt_append (v1 p21) (pa_cons pe_str pa_nil) (hline := ha1)))
    (pss_one (ps_ret (pe_cmpR (op_eqD hu) (A0 p25 p26) (v2 p27) (nomark _)))))))), h f c' q hc⟩
theorem me_stays {c : Cm} {W : WM} {g cc P : Addr} {k : Nat} {pg : Arguments} {bg : List Stmt} {sg : Scope} {dV kV doc pm cdv ct oc : Value} {an od : Option Addr} {osl : Array (Option Value)} {Ng : List Str}
    {params : Arguments} {body : Expr} {scope : Scope} {fB : Rho → R Sl} {p lpos pos : Pos} (hg : Gl X "_law_stays") (hm : X.mg "_law_stays" = some (.ref g)) (hk : PySem.W.keepIn X.K (.ref g) = true)
    (lk : X.K.lookup g = some ⟨oc, od, .func (PySem.W.fnOf "_law_stays" "_law_stays" pg bg sg dV kV doc pm an cdv ct), osl⟩) (hcg : PySem.W.codeIn X.K cdv "_law_stays" = true) (hb : L2.Binds X.K (PySem.W.fnOf "_law_stays" "_law_stays" pg bg sg dV kV doc pm an cdv ct) ["deed"] []) (Sg : FnScope Ng ["deed"] sg) (hNg : Ng[0]? = some ("deed" : Str)) (hva : Vis sg "deed")
    (hG : GivesTo X Ng "_law_stays" sg g cdv bg "deed" (X.env.qual ++ "<lambda>") (TTs X.K)) (hqo : qof lpos = X.env.qual ++ "<lambda>") (TB : TabB X.base X.mg cc P) (hcode : X.env.code = .ref cc) (hT : TabQ c.H0 P) (hr : Room (k + 2) X.A)
    (L : LamS X.env.scope scope) (hdef : defaultsOf params X.env = ([], [])) (hbind : ∀ (q : Str) (cl : List (Str × Addr)) (pm cv ctv : Value), bindArgs (PySem.W.kla_fn "<lambda>" q params body scope cl pm cv ctv) ⟨[], []⟩ = pure [])
    (hbody : ∀ (A : Around) (outer : List Env) (s : Shared) (H : Hp) (E : XK) (f c' : Addr), Room k (A.deeper (lamEnv X scope s.heap.objs.size f c')) → MN (lamCx X A outer s H E scope f c') c W0 body fB) :
    ME X c W (.Call (.Name "_law_stays" p) [.Lambda params body scope lpos] [] pos) (staysE fB) := by
  refine PE.imp (pe_lamM (t := fun E => tN X.K c W0 fB) hg hm hk ⟨lk, hcg, hb, Sg, hNg, hva⟩ hG TB hcode hqo hr L hdef hbind hbody) fun σ H Qk ⟨G, ρ, ok, p⟩ => ?_
  refine ⟨ok.e.h.tabs P hT, fun H1 grow f c' q hc => ?_⟩
  have gr := Gr.grow ok.s grow
  have ok1 := ok.gr gr
  unfold staysE at p
  cases e : fB ρ with
  | bad => rw [e] at p; exact p.elim
  | rz z => rw [e] at p; exact p.elim
  | ok sl =>
    cases sl with
    | no => rw [e] at p; exact p.elim
    | d x => rw [e] at p; exact p.elim
    | o xs =>
      rw [e] at p
      dsimp only at p
      by_cases hl : xs.length < 1000000
      · rw [if_pos hl] at p
        cases eb : eqD (.list xs) (.list xs) with
        | none => rw [eb] at p; exact p.elim
        | some b =>
          rw [eb] at p
          refine ⟨rfl, hc, G, ρ, ok1, ?_⟩
          show PostN X.K c W0 G H1 σ _ (fB ρ)
          rw [e]
          intro G' H' v g1 nw
          obtain ⟨a, us, rfl, ha, ga, na, qa⟩ := nw
          refine ⟨.ref a, rfl, .ref a, .ty "list", .type "list", .type "list", true, rfl, .ty _, .base (.lst ha), kit_ty (kit_tab .list (.list xs) rfl), ?_⟩
          refine ⟨true, rfl, ?_⟩
          simp only [Bool.not_true, Bool.false_eq_true, if_false]
          refine ⟨.ref a, rfl, a, us, rfl, .inl (SqL.of ha), fun l hlN => ?_⟩
          have nal : a ≠ l := fun z => by rw [z, hlN] at ha; cases ha
          have g2 : Gr G' H' G' (upd H' l (.lst us)) := Gr.own g1.s hlN
          have ha2 : upd H' l (.lst us) a = some (.lst us) := by rw [upd_ne nal]; exact ha
          have g3 : Gr G H1 G' (upd (upd H' l (.lst us)) a (.lst (us ++ [.str "?"]))) := (g1.trans g2).wr0 ha2 ga na
          have ok3 : Ok X.K c G' (upd (upd H' l (.lst us)) a (.lst (us ++ [.str "?"]))) ρ σ := ((ok1.gr g1).gr g2).wr0 ha2 ga (na.of ok1.e.h) fun j ys ej => ok1.apart na ej
          have hl3 : upd (upd H' l (.lst us)) a (.lst (us ++ [.str "?"])) l = some (.lst us) := by rw [upd_ne (Ne.symm nal), upd_same]
          refine ⟨.ref a, rfl, tyL ha2, a, us, .str "?", rfl, rfl, ha2, szl (by rw [qa.length]; exact hl), ?_⟩
          refine ⟨rfl, g3.h.keep _ _ hc codeO_ne, G', ρ, ok3, ?_⟩
          show PostN X.K c W0 G' _ σ _ (fB ρ)
          rw [e]
          intro G2 H4 w g4 nw4
          obtain ⟨a2, us2, rfl, hb, gb, nb, qb⟩ := nw4
          refine ⟨.ref l, rfl, ?_⟩
          refine cmd_eq (X := X) (c := c) G2 H4 _ _ (.list xs) (.list xs) b _ eb g4.s (.inr ⟨a2, us2, xs, rfl, rfl, hb, qb⟩) (.inr ⟨l, us, xs, rfl, rfl, g4.h.keep _ _ hl3 nt_lst, QA.mono g4.g _ _ qa⟩) fun G5 H5 g5 => ?_
          exact p G5 H5 _ (((gr.trans g3).trans g4).trans g5) (.bl b)
      · rw [if_neg hl] at p; exact p.elim
end
end M

/-! lists that are told as data, known to be new -/
namespace M
open PySem PySem.Spec PyProof.Rows L2
def nL (f : Rho → R D) : Rho → R Sl := fun ρ => (f ρ).bind fun x => match x with
  | .list xs => .ok (.o xs)
  | _ => .bad
section
variable {X : Cx} {c : Cm} {W : WM} {a : Expr} {f : Rho → R D} {p p2 q pos : Pos}
theorem mn_sortSet (hc : X.calm = true) (hg : Gl X "sorted") (hm : X.mg "sorted" = none) (hg2 : Gl X "set") (hm2 : X.mg "set" = none) (ha : MB X c W a f) (na : starEach [a] X.env = (false, eval a X.env) :: starEach [] X.env := by rfl) :
    MN X c W (.Call (.Name "sorted" p) [.Call (.Name "set" p2) [a] [] q] [] pos) (nL (e1 sortSetD f)) :=
  PE.imp (Mset.pe_sortSet hc hg hm bt_sorted hg2 hm2 ha na) fun σ H Qk ⟨G, ρ, ok, p⟩ => by
    have p' : PostN X.K c W G H σ Qk ((f ρ).bind fun x => (R.of (sortSetD x)).bind fun x => match x with
      | .list xs => .ok (.o xs)
      | _ => .bad) := by
      have e : nL (e1 sortSetD f) ρ = ((f ρ).bind fun x => (R.of (sortSetD x)).bind fun x => match x with
        | .list xs => .ok (.o xs)
        | _ => .bad) := by
        unfold nL e1
        cases f ρ <;> rfl
      rw [← e]
      exact p
    exact stepN ok p' fun x G1 H1 v _ g1 r1 ok1 p1 => by
      unfold sortSetD at p1
      cases e : itemsInt x with
      | none => rw [e] at p1; exact p1.elim
      | some is =>
        rw [e] at p1
        dsimp only at p1
        by_cases hl : is.length < 64
        · rw [if_pos hl] at p1
          obtain ⟨l, rfl, hi⟩ := ints_at ok1.s r1 e
          refine ⟨l, is, rfl, hi, hl, fun ns' p hs hmem hp => ?_⟩
          have pm : ns'.Perm (sortI (Mset.uniq is)) := (List.perm_ext_iff_of_nodup (lt_nodup hs) ((sortI_perm _).nodup_iff.mpr (Mset.uniq_nodup is))).mpr fun j => by
            rw [hmem j, sortI_mem, Mset.mem_uniq]
          rw [sorted_uniq pm (lt_le hs) (sortI_sorted _)]
          exact p1 G1 _ _ (Gr.own ok1.s hp) ⟨p, _, rfl, upd_same, ok1.s.free hp, Nw.none hp, QA.ints⟩
        · rw [if_neg hl] at p1; exact p1.elim
end
/-- tuples of plain things alone -/
def plD : D → Bool
  | .none => true
  | .bool _ => true
  | .int _ => true
  | .str _ => true
  | .tuple xs => xs.all flatD
  | _ => false
/-- without its lists -/
def noL (G : Hp) : Hp := fun a => match G a with
  | some (.lst _) => none
  | o => o
theorem noL_lst {G : Hp} {a : Addr} {us : List V} (h : noL G a = some (.lst us)) : False := by
  unfold noL at h
  split at h
  · cases h
  · rename_i o hn
    exact hn us h
theorem noL_le {G : Hp} {a : Addr} {o : HO} (h : noL G a = some o) : G a = some o := by
  unfold noL at h
  split at h
  · cases h
  · exact h
theorem noL_of {G : Hp} {a : Addr} {o : HO} (h : G a = some o) (n : ∀ us, o ≠ .lst us) : noL G a = some o := by
  unfold noL
  rw [h]
  cases o with
  | lst us => exact absurd rfl (n us)
  | _ => rfl
theorem Q.flt {K : PySem.W.Frag} {ns : Sc} {G G' : Hp} {v : V} {d : D} (f : flatD d = true) (q : Q K ns G v d) : Q K ns G' v d := by
  cases q with
  | non => exact .non
  | bl b => exact .bl b
  | int i => exact .int i
  | str x => exact .str x
  | _ => cases f
theorem QA.flt {K : PySem.W.Frag} {ns : Sc} {G G' : Hp} : ∀ {ds : List D} {vs : List V}, ds.all flatD = true → QA K ns G vs ds → QA K ns G' vs ds
  | [], _, _, h => by cases h; exact .nil
  | d :: ds, _, f, h => by
    rw [List.all_cons, Bool.and_eq_true] at f
    cases h with
    | cons h1 h2 => exact .cons (Q.flt f.1 h1) (QA.flt f.2 h2)
theorem Q.noL {K : PySem.W.Frag} {ns : Sc} {G : Hp} {v : V} {d : D} (f : plD d = true) (q : Q K ns G v d) : Q K ns (noL G) v d := by
  cases q with
  | non => exact .non
  | bl b => exact .bl b
  | int i => exact .int i
  | str x => exact .str x
  | tup h1 h2 =>
    refine .tup ?_ (QA.flt f h2)
    rcases h1 with (h | ⟨o, h⟩) | h
    · exact .inl (.inl (noL_of h fun us z => nomatch z))
    · exact .inl (.inr ⟨o, noL_of h fun us z => nomatch z⟩)
    · exact .inr h
  | _ => cases f
theorem QA.noL {K : PySem.W.Frag} {ns : Sc} {G : Hp} : ∀ {ds : List D} {vs : List V}, ds.all plD = true → QA K ns G vs ds → QA K ns (noL G) vs ds
  | [], _, _, h => by cases h; exact .nil
  | d :: ds, _, f, h => by
    rw [List.all_cons, Bool.and_eq_true] at f
    cases h with
    | cons h1 h2 => exact .cons (Q.noL f.1 h1) (QA.noL f.2 h2)
/-- a list of plain things that is told of tuples alone is a new one -/
def fcall (f : List D → Out) (g : Rho → R (List D)) : Rho → R Sl := fun ρ => (g ρ).bind fun ds => if ds.all plD = true then match f ds with
  | .rt (.list xs) => if xs.all flatD = true then .ok (.o xs) else .bad
  | _ => .bad else .bad
section
variable {X : Cx} {c : Cm} {W : WM}
theorem mn_callN {k : Nat} {fa : Addr} {fd : FuncData} {ps : List Str} {x : Str} {p pos : Pos} {e : Expr} {es : List Expr} {f : List D → Out} {g : Rho → R (List D)} (F : FnOk X.prog X.w X.K X.mg X.base CX0 k fa fd ps (spM X.K c.ns X.mg f)) (hr : Room k X.A) (hg : Gl X x) (hm : X.mg x = some (.ref fa)) (hk : PySem.W.keepIn X.K (.ref fa) = true) (hb : Binds X.K fd ps [])
    (ha : MA X c W (e :: es) g) (hdb : (x == ("__debug__" : Str)) = false := by decide) (he : starEach (e :: es) X.env = (false, eval e X.env) :: starEach es X.env := by rfl) (hpl : (backTo pos (starEach es X.env)).any (·.1) = false := by rfl) :
    MN X c W (.Call (.Name x p) (e :: es) [] pos) (fcall f g) :=
  PE.imp (L2.pe_callS (E := fun _ _ _ _ => True) F hr hg hm hk hb (fun σ pins H s e s' I h => (show False from h).elim) ha hdb he hpl) fun σ H Qk ⟨G, ρ, ok, p⟩ => stepN ok p fun ds G1 H1 vs _ g1 r1 ok1 p1 => by
    by_cases hd : ds.all plD = true
    · rw [if_pos hd] at p1
      refine ⟨noL G1, ds, fun b o h => ok1.s b o (noL_le h), QA.noL hd r1, ?_⟩
      split at p1
      · rename_i xs e
        rw [e]
        by_cases hx : xs.all flatD = true
        · rw [if_pos hx] at p1
          intro G' H' v gr q
          cases q with
          | lst h1 h2 =>
            rename_i a us
            have hn : Nw H1 a := fun o ho ht => by
              have g0 : noL G1 a = none := by
                cases hz : noL G1 a with
                | none => rfl
                | some o2 =>
                  have z := gr.g _ _ hz
                  rw [h1] at z
                  cases z
                  exact (noL_lst hz).elim
              have := gr.n a o ho ht g0
              rw [h1] at this
              cases this
            have ga : G1 a = none := by
              cases hz : G1 a with
              | none => rfl
              | some o2 => exact (hn o2 (ok1.s a o2 hz).1 (ok1.s a o2 hz).2).elim
            exact p1 G1 H' _ ⟨Same.refl G1, gr.h, ok1.s.ex gr.h, fun _ _ _ _ h => h⟩ ⟨a, us, rfl, (gr.s _ _ h1).1, ga, hn, QA.flt hx h2⟩
        · rw [if_neg hx] at p1; exact p1.elim
      · exact p1.elim
    · rw [if_neg hd] at p1; exact p1.elim
end
end M

/-! list(zip(a, b)), over iterators of any kind (Draws) -/
namespace Mz
open PySem PySem.Spec PyProof.Rows L2 PySem.W PySem.Calls
theorem zip_no_len : typeLookup (.type "zip") "__len__" = pure none := am_miss_of_fast (by decide +kernel)
theorem zip_no_hint : typeLookup (.type "zip") "__length_hint__" = pure none := am_miss_of_fast (by decide +kernel)
section
variable {prog : Program} {w : World} {A : Around} {E : Value → Shared → Prop} {s : Shared}
/-- next of a zip, by what its __next__ does -/
theorem next_zip {z : Addr} {Q : Option Value → Shared → Prop} (typ : s.TypeIs (.ref z) "zip")
    (h : ∀ {E' : Value → Shared → Prop}, (∀ e s', (∃ o, s'.heap.get? e = some o ∧ o.cls = .type "StopIteration") → Q none s' → E' (.ref e) s') →
      wpAny (model prog w) A.in1 (Builtin.«zip.__next__» ⟨[.ref z], []⟩) (fun fin s' => ∃ v, fin = .done (.ret v) ∧ Q (some v) s') E' s) :
    wpAny (model prog w) A (pyNext (.ref z)) Q E s := by
  unfold pyNext
  refine wpAny_bind (wpAny_attempt (wpAny_callSpecial?_slot (name := Str.ofString "__next__") typ F.slot_zip_next (wpAny_call_entry F.slot_zip_next typ F.entry_zip_next ?_ (F.args_zip_next_1 _))))
  refine wpAny_mono (h fun e s' ⟨o, ho, hc⟩ q => wpAny_bind (wpAny_isInstance (T := "StopIteration") (b := true) ⟨o, ho, hc⟩ isSubtype_stop (wpAny_pure q))) (fun fin s' ⟨v, e, q⟩ => ⟨v, e, wpAny_pure q⟩) fun _ _ q => q
/-- __next__ of a zip of two whose tuple is held: both draw, and a new tuple is made -/
theorem held_next {z TI TO T i1 i2 : Addr} {f : Bool} {oT : Obj} {R : Value → Shared → Prop} (hz : IsZipHeld s.heap z TI TO T f) (hT : s.heap.get? T = some oT) (hTI : IsPair s.heap TI (.ref i1) (.ref i2))
    (h : ∀ h', IsZipHeld h' z TI TO T true → Heap.SameBut z s.heap h' → wpAny (model prog w) A (Builtin.SmallTypes.nextOf (.ref i1)) (fun x s1 => wpAny (model prog w) A (Builtin.SmallTypes.nextOf (.ref i2)) (fun y s2 => wpAny (model prog w) A (newTuple [x, y]) R E s2) E s1) E { s with heap := h' }) :
    wpAny (model prog w) A (Builtin.«zip.__next__» ⟨[.ref z], []⟩) (fun fin s' => ∃ v, fin = .done (.ret v) ∧ R v s') E s := by
  refine wpAny_bind (m := field (.ref z) 2) (wpAny_field hz rfl (x := .bool false) rfl (wpAny_bind (m := field (.ref z) 3) (wpAny_field hz rfl (x := .ref TI) rfl (wpAny_bind (wpAny_seqItems hTI rfl ?_)))))
  refine wpAny_bind (m := Builtin.SmallTypes.ownedTupleIsFree (.ref z)) (wpAny_tupleHeld_zip hz hT fun h' held same => ?_)
  refine PySem.W.KFB.if_not rfl (wpAny_bind ?_)
  rw [← Array.forIn_toList]
  simp only [List.forIn_cons, List.forIn_nil]
  have draw : ∀ {i : Addr} {kept : List Value} {B : Value → Shared → Prop} {s0 : Shared}, wpAny (model prog w) A (Builtin.SmallTypes.nextOf (.ref i)) B E s0 → wpAny (model prog w) A (holding kept (Builtin.SmallTypes.nextOf (.ref i) >>= fun v => pure (some v))) (fun o s' => ∃ v, o = some v ∧ B v s') E s0 :=
    fun q => wpAny_holding (wpAny_bind (wpAny_mono q (fun v s' b => wpAny_pure ⟨v, rfl, b⟩) fun _ _ e => e))
  refine wpAny_bind (wpAny_bind (wpAny_mono (draw (h h' held same)) (fun o s1 ⟨x, ex, q⟩ => ?_) fun _ _ e => e))
  subst ex
  refine wpAny_pure (wpAny_bind (wpAny_bind (wpAny_mono (draw q) (fun o s2 ⟨y, ey, r⟩ => ?_) fun _ _ e => e)))
  subst ey
  refine wpAny_pure (wpAny_pure ?_)
  exact wpAny_bind (m := newTuple [x, y]) (wpAny_mono r (fun v s3 t => wpAny_pure ⟨v, rfl, t⟩) fun _ _ e => e)
theorem zip_hint {z : Addr} (hT : s.TypeIs (.ref z) "zip") {Q : Bool → Shared → Prop} (h : Q true s) : wpAny (model prog w) A (Builtin.List.listLengthHint (.ref z)) Q E s := by
  unfold Builtin.List.listLengthHint
  refine wpAny_bind (wpAny_specialOf hT zip_no_len ?_)
  refine PySem.W.KFB.if_not rfl ?_
  refine PySem.W.KFB.if_not rfl ?_
  refine wpAny_bind (wpAny_specialOf hT zip_no_hint ?_)
  exact wpAny_pure h
end
/-- a zip of two iterators before turn i, the tuple that it gave out still there -/
structure St (St1 St2 : Nat → Heap → Prop) (h : Heap) (z TI TO i1 i2 S : Addr) (i : Nat) : Prop where
  ti : IsPair h TI (.ref i1) (.ref i2)
  d1 : St1 i h
  d2 : St2 i h
  zz : (IsZip h z TI TO .none ∧ ∃ a b, IsPair h TO a b) ∨ ∃ T f oT, IsZipHeld h z TI TO T f ∧ h.get? T = some oT ∧ T ≠ z ∧ T ≠ i1 ∧ T ≠ i2 ∧ T ≠ S
section
variable {prog : Program} {w : World} {A A' : Around} {E : Value → Shared → Prop} {s : Shared} {z TI TO i1 i2 S : Addr} {fp1 fp2 : List Addr} {n i : Nat} {P1 P2 : Nat → Value → Prop} {St1 St2 : Nat → Heap → Prop}
theorem St.up {h h' : Heap} (D1 : Draws prog w A i1 fp1 n P1 St1) (D2 : Draws prog w A i2 fp2 n P2 St2) (t : St St1 St2 h z TI TO i1 i2 S i) (k : ∀ b o, b ≠ S → h.get? b = some o → h'.get? b = some o) (nz : z ≠ S) (nTI : TI ≠ S) (nTO : TO ≠ S) (m1 : S ∉ fp1) (m2 : S ∉ fp2) : St St1 St2 h' z TI TO i1 i2 S i := by
  refine ⟨k _ _ nTI t.ti, D1.frame _ _ _ t.d1 fun b hb o e => k b o (fun q => m1 (q ▸ hb)) e, D2.frame _ _ _ t.d2 fun b hb o e => k b o (fun q => m2 (q ▸ hb)) e, t.zz.imp (fun ⟨h1, a, b, h2⟩ => ⟨k _ _ nz h1, a, b, k _ _ nTO h2⟩) fun ⟨T, f, oT, h1, h2, h3, h4, h5, h6⟩ => ⟨T, f, oT, k _ _ nz h1, k _ _ h6 h2, h3, h4, h5, h6⟩⟩
theorem st_item {Q : Option Value → Shared → Prop} (Z : ZipSep2 z TI TO i1 i2 fp1 fp2) (D1 : Draws prog w A.in1 i1 fp1 n P1 St1) (D2 : Draws prog w A.in1 i2 fp2 n P2 St2) (hS : S < s.heap.objs.size) (t : St St1 St2 s.heap z TI TO i1 i2 S i) (lt : i < n)
    (hQ : ∀ x y h' tk, P1 i x → P2 i y → St St1 St2 h' z TI TO i1 i2 S (i + 1) → IsPair h' s.heap.objs.size x y → h'.objs.size = s.heap.objs.size + 1 → (∀ c o, c ≠ z → c ≠ TO → c ≠ i1 → c ≠ i2 → s.heap.get? c = some o → h'.get? c = some o) → Q (some (.ref s.heap.objs.size)) { s with heap := h', toks := tk }) :
    wpAny (model prog w) A (pyNext (.ref z)) Q E s := by
  have new : ∀ {b : Addr} {o : Obj}, s.heap.get? b = some o → s.heap.objs.size ≠ b := fun e => Nat.ne_of_gt (Heap.lt_size e)
  have new1 : s.heap.objs.size ≠ i1 := let ⟨_, e⟩ := D1.live _ _ t.d1; new e
  have new2 : s.heap.objs.size ≠ i2 := let ⟨_, e⟩ := D2.live _ _ t.d2; new e
  rcases t.zz with ⟨free, a, b, out⟩ | ⟨T, f, oT, held, atT, n1, n2, n3, n4⟩
  · refine wpAny_pyNext_zipD2_item Z D1 D2 free t.ti out t.d1 t.d2 lt lt fun x y h' tk p1 p2 zh _ s1 s2 pr size far => ?_
    exact hQ x y h' tk p1 p2 ⟨far _ _ Z.TIz Z.TITO Z.TIi1 Z.TIi2 t.ti, s1, s2, .inr ⟨_, false, _, zh, pr, new free, new1, new2, Nat.ne_of_gt hS⟩⟩ pr size far
  · refine next_zip ⟨_, held, rfl⟩ fun _ => held_next held atT t.ti fun g0 held0 k0 => ?_
    refine D1.item i _ _ _ lt (D1.over t.d1 k0 Z.zf1) fun x g1 t1 p1 s1 k1 => ?_
    refine D2.item i _ _ _ lt (D2.over (D2.over t.d2 k0 Z.zf2) k1 Z.sep1_2) fun y g2 t2 p2 s2 k2 => wpAny_newTuple ?_
    have size : g2.objs.size = s.heap.objs.size := (k2.1.trans k1.1).trans k0.1
    have far : ∀ c o, c ≠ z → c ≠ i1 → c ≠ i2 → s.heap.get? c = some o → (g2.push { cls := .type "tuple", data := .seq #[x, y] }).get? c = some o := fun c o c0 c1 c2 e => Heap.get?_push_of_some _ (k2.extBut _ _ c2 (k1.extBut _ _ c1 (k0.extBut _ _ c0 e)))
    have zz : IsZipHeld (g2.push { cls := .type "tuple", data := .seq #[x, y] }) z TI TO T true := Heap.get?_push_of_some _ (k2.extBut _ _ Z.zi2 (k1.extBut _ _ Z.zi1 held0))
    have pr : IsPair (g2.push { cls := .type "tuple", data := .seq #[x, y] }) g2.objs.size x y := Heap.get?_push_size _ rfl
    have sz : (g2.push { cls := .type "tuple", data := .seq #[x, y] }).objs.size = g2.objs.size + 1 := Heap.size_push ..
    show Q (some (.ref g2.objs.size)) _
    rw [size] at pr sz ⊢
    exact hQ x y _ t2 p1 p2 ⟨far _ _ Z.TIz Z.TIi1 Z.TIi2 t.ti, D1.frame _ _ _ (D1.over s1 k2 Z.sep2_1) fun b _ o e => Heap.get?_push_of_some _ e, D2.frame _ _ _ s2 fun b _ o e => Heap.get?_push_of_some _ e, .inr ⟨T, true, oT, zz, far _ _ n1 n2 n3 atT, n1, n2, n3, n4⟩⟩ pr sz fun c o c0 _ c1 c2 e => far c o c0 c1 c2 e
theorem st_end {Q : Option Value → Shared → Prop} (Z : ZipSep2 z TI TO i1 i2 fp1 fp2) (D1 : Draws prog w A.in1 i1 fp1 n P1 St1) (D2 : Draws prog w A.in1 i2 fp2 n P2 St2) (t : St St1 St2 s.heap z TI TO i1 i2 S n)
    (hQ : ∀ h' tk, (∀ c o, c ≠ z → c ≠ TO → c ≠ i1 → c ≠ i2 → s.heap.get? c = some o → h'.get? c = some o) → Q none { s with heap := h', toks := tk }) : wpAny (model prog w) A (pyNext (.ref z)) Q E s := by
  rcases t.zz with ⟨free, a, b, out⟩ | ⟨T, f, oT, held, atT, n1, n2, n3, n4⟩
  · exact wpAny_pyNext_zipD2_end Z D1 D2 free t.ti out t.d1 t.d2 (Nat.le_refl n) (Nat.le_refl n) (.inl rfl) hQ
  · refine next_zip ⟨_, held, rfl⟩ fun stop => held_next held atT t.ti fun g0 _ k0 => D1.done _ _ _ (D1.over t.d1 k0 Z.zf1) fun g1 e k1 ex => ?_
    exact stop e _ ex (hQ g1 s.toks fun c o c0 _ c1 _ q => k1 c o c1 (k0.extBut _ _ c0 q))
end
/-- the pairs that were given out -/
structure Gv (P1 P2 : Nat → Value → Prop) (lo : Addr) (h : Heap) (as : List Addr) : Prop where
  rise : as.Pairwise (· < ·)
  above : ∀ a ∈ as, lo < a
  pairs : ∀ (j : Nat) (a : Addr), as[j]? = some a → ∃ x y, P1 j x ∧ P2 j y ∧ IsPair h a x y
section
variable {prog : Program} {w : World} {A : Around} {s : Shared} {R : Result → Shared → Prop} {z TI TO i1 i2 S : Addr} {fp1 fp2 : List Addr} {n : Nat} {P1 P2 : Nat → Value → Prop} {St1 St2 : Nat → Heap → Prop}
theorem Gv.keep {h h' : Heap} {as : List Addr} (g : Gv P1 P2 S h as) (k : ∀ a o, S < a → h.get? a = some o → h'.get? a = some o) : Gv P1 P2 S h' as := ⟨g.rise, g.above, fun j a e => let ⟨x, y, p, q, pr⟩ := g.pairs j a e; ⟨x, y, p, q, k a _ (g.above a (List.mem_of_getElem? e)) pr⟩⟩
theorem Gv.snoc {h : Heap} {as : List Addr} {a : Addr} {x y : Value} (g : Gv P1 P2 S h as) (lt : ∀ b ∈ as, b < a) (hS : S < a) (p : P1 as.length x) (q : P2 as.length y) (pr : IsPair h a x y) : Gv P1 P2 S h (as ++ [a]) := by
  refine ⟨List.pairwise_append.mpr ⟨g.rise, List.pairwise_singleton _ _, fun b hb c hc => by rw [List.mem_singleton.mp hc]; exact lt b hb⟩, fun b hb => ?_, fun j b e => ?_⟩
  · rcases List.mem_append.mp hb with hb | hb
    · exact g.above b hb
    · rw [List.mem_singleton.mp hb]; exact hS
  · by_cases c : j < as.length
    · rw [List.getElem?_append_left c] at e
      exact g.pairs j b e
    · rw [List.getElem?_append_right (Nat.not_lt.mp c)] at e
      obtain ⟨k, rfl⟩ := Nat.exists_eq_add_of_le (Nat.not_lt.mp c)
      rw [Nat.add_sub_cancel_left] at e
      cases k with
      | zero =>
        cases e
        exact ⟨x, y, p, q, pr⟩
      | succ k => cases e
/-- list.extend's loop over a zip -/
theorem zl_loop (Z : ZipSep2 z TI TO i1 i2 fp1 fp2) (D1 : Draws prog w A.in1.in1 i1 fp1 n P1 St1) (D2 : Draws prog w A.in1.in1 i2 fp2 n P2 St2) (zS : z < S) (TIS : TI < S) (TOS : TO < S) (f1S : ∀ b ∈ fp1, b < S) (f2S : ∀ b ∈ fp2, b < S) (hn : n ≤ sizeLine) (res : Value) {h₁ : Heap}
    (hR : ∀ h' tk acc c as, (∀ b o, b ≠ S → b ≠ z → b ≠ TO → b ≠ i1 → b ≠ i2 → h₁.get? b = some o → h'.get? b = some o) → h'.get? S = some { cls := .type "list", dict := none, data := .seq acc c, slots := #[] } → as.length = n → Gv P1 P2 S h' as →
      acc.toList = as.map Value.ref → R (.ok (.ret res)) { s with heap := h', toks := tk }) :
    ∀ (k i : Nat) (h : Heap) (tk c : Nat) (acc : Array Value) (as : List Addr), n - i = k → i ≤ n → St St1 St2 h z TI TO i1 i2 S i → (∀ b o, b ≠ S → b ≠ z → b ≠ TO → b ≠ i1 → b ≠ i2 → h₁.get? b = some o → h.get? b = some o) →
      h.get? S = some { cls := .type "list", dict := none, data := .seq acc c, slots := #[] } → acc.toList = as.map Value.ref → as.length = i → Gv P1 P2 S h as →
      codeAny (model prog w) A (.builtin "list.extend.loop" ⟨[.ref S, .ref z, res], []⟩) R { s with heap := h, toks := tk } := by
  have i1S := f1S _ Z.mem1
  have i2S := f2S _ Z.mem2
  have ne : ∀ {b : Addr}, b < S → S ≠ b := fun h => Nat.ne_of_gt h
  have aw : ∀ {a b : Addr}, S < a → b < S → a ≠ b := fun h1 h2 => Nat.ne_of_gt (Nat.lt_trans h2 h1)
  have run : ∀ {s0 : Shared}, wpAny (model prog w) A.in1 (pyNext (.ref z)) (fun r s1 => wpAny (model prog w) A.in1 (match r with
      | some x => do updateSeq S (·.push x); pure (Fin.again (.builtin "list.extend.loop" ⟨[.ref S, .ref z, res], []⟩))
      | none => pure (Fin.done (.ret res))) (fun fin s' => match fin with | .done f => R (.ok f) s' | .again c' => c'.quiet = true ∧ codeAny (model prog w) A c' R s') (fun e s' => R (.error e) s') s1) (fun e s' => R (.error e) s') s0 →
      codeAny (model prog w) A (.builtin "list.extend.loop" ⟨[.ref S, .ref z, res], []⟩) R s0 := fun q => by
    refine codeAny_builtin PySem.F.entry_extend_loop ?_
    rw [Around.under_plainId PySem.F.plain_extend_loop _]
    exact wpAny_bind (m := pyNext (.ref z)) (wpAny_mono q (fun r s1 t => by cases r <;> exact t) fun _ _ e => e)
  intro k
  induction k with
  | zero =>
    intro i h tk c acc as hk hi st keep atS eacc len g
    obtain rfl : i = n := by omega
    refine run (st_end (s := { s with heap := h, toks := tk }) Z D1 D2 st fun h' t' far => wpAny_pure (hR h' t' acc c as (fun b o b1 b2 b3 b4 b5 e => far b o b2 b3 b4 b5 (keep b o b1 b2 b3 b4 b5 e)) (far S _ (ne zS) (ne TOS) (ne i1S) (ne i2S) atS) len (g.keep fun a o lt e => far a o (aw lt zS) (aw lt TOS) (aw lt i1S) (aw lt i2S) e) eacc))
  | succ k ih =>
    intro i h tk c acc as hk hi st keep atS eacc len g
    have lt : i < n := by omega
    have size : acc.size = i := by rw [← Array.length_toList, eacc, List.length_map, len]
    have hSl : S < h.objs.size := Heap.lt_size atS
    refine run (st_item (s := { s with heap := h, toks := tk }) (S := S) Z D1 D2 hSl st lt fun x y h' t' p q st' pr _ far => ?_)
    have atS' := far S _ (ne zS) (ne TOS) (ne i1S) (ne i2S) atS
    have up : ∀ b o, b ≠ S → h'.get? b = some o → (h'.update S (Obj.mapSeq (·.push (Value.ref h.objs.size)))).get? b = some o := fun b o hb e => (Heap.get?_update_other _ _ (Ne.symm hb)).trans e
    have g' : Gv P1 P2 S (h'.update S (Obj.mapSeq (·.push (Value.ref h.objs.size)))) (as ++ [h.objs.size]) := by
      refine (g.keep fun a o la e => up a o (Nat.ne_of_gt la) (far a o (aw la zS) (aw la TOS) (aw la i1S) (aw la i2S) e)).snoc (fun b hb => ?_) hSl (len ▸ p) (len ▸ q) (up _ _ (Nat.ne_of_gt hSl) pr)
      obtain ⟨j, ej⟩ := List.mem_iff_getElem?.mp hb
      obtain ⟨_, _, _, _, pj⟩ := g.pairs j b ej
      exact Heap.lt_size pj
    refine wpAny_bind (m := updateSeq S _) (wpAny_updateSeq atS' rfl (wpAny_pure ⟨plainId_quiet PySem.F.plain_extend_loop _, ih (i + 1) _ t' _ (acc.push (Value.ref h.objs.size)) (as ++ [h.objs.size]) (by omega) lt
      (st'.up D1 D2 up (Nat.ne_of_lt zS) (Nat.ne_of_lt TIS) (Nat.ne_of_lt TOS) (fun m => Nat.lt_irrefl S (f1S S m)) fun m => Nat.lt_irrefl S (f2S S m))
      (fun b o b1 b2 b3 b4 b5 e => up b o b1 (far b o b2 b3 b4 b5 (keep b o b1 b2 b3 b4 b5 e))) (Heap.get?_update_self _ atS' rfl) (by rw [Array.toList_push, eacc, List.map_append]; rfl) (by rw [List.length_append, len]; rfl) g'⟩) (by rw [size]; omega) (by show (acc.push (Value.ref h.objs.size)).size ≤ sizeLine + 1; rw [Array.size_push, size]; omega))
end
section
variable {prog : Program} {w : World} {A : Around} {E : Value → Shared → Prop} {s : Shared} {z TI TO i1 i2 : Addr} {fp1 fp2 : List Addr} {n : Nat} {P1 P2 : Nat → Value → Prop} {St1 St2 : Nat → Heap → Prop}
/-- room made in a list that is empty -/
theorem list_room {S : Addr} {c : Nat} {Q : Unit → Shared → Prop} (atS : s.heap.get? S = some { cls := .type "list", data := .seq #[] c })
    (q : ∀ (h' : Heap) (c' : Nat), (∀ b o, b ≠ S → s.heap.get? b = some o → h'.get? b = some o) → h'.get? S = some { cls := .type "list", data := .seq #[] c' } → Q () { s with heap := h' }) :
    wpAny (model prog w) A (updateSeq S (·.push .none) >>= fun _ => updateSeq S (·.pop)) Q E s := by
  have at1 := Heap.get?_update_self (Obj.mapSeq (·.push Value.none)) atS rfl
  have off : ∀ {f : Array Value → Array Value} {g : Heap} {b o}, b ≠ S → g.get? b = some o → (g.update S (Obj.mapSeq f)).get? b = some o := fun nb e => (Heap.get?_update_other _ _ (Ne.symm nb)).trans e
  exact wpAny_bind (wpAny_updateSeq atS rfl (wpAny_updateSeq (hz := by seq_fits) at1 rfl (q _ _ (fun b o nb e => off nb (off nb e)) (Heap.get?_update_self (Obj.mapSeq (·.pop)) at1 rfl))))
/-- list(z), z a zip that was just made -/
theorem zl_call {Q : Value → Shared → Prop} (Z : ZipSep2 z TI TO i1 i2 fp1 fp2) (D1 : Draws prog w A.in1.in1.in1 i1 fp1 n P1 St1) (D2 : Draws prog w A.in1.in1.in1 i2 fp2 n P2 St2) (hz : IsZip s.heap z TI TO .none) (hTI : IsPair s.heap TI (.ref i1) (.ref i2)) (hTO : IsPair s.heap TO .none .none) (h1 : St1 0 s.heap) (h2 : St2 0 s.heap)
    (l1 : ∀ b ∈ fp1, b < s.heap.objs.size) (l2 : ∀ b ∈ fp2, b < s.heap.objs.size) (hsz : n ≤ sizeLine)
    (hQ : ∀ h' tk acc c as, (∀ b o, b ≠ z → b ≠ TO → b ≠ i1 → b ≠ i2 → s.heap.get? b = some o → h'.get? b = some o) → h'.get? s.heap.objs.size = some { cls := .type "list", dict := none, data := .seq acc c, slots := #[] } → as.length = n → Gv P1 P2 s.heap.objs.size h' as →
      acc.toList = as.map Value.ref → Q (.ref s.heap.objs.size) { s with heap := h', toks := tk }) :
    wpAny (model prog w) A (call (.type "list") [.ref z]) Q E s := by
  generalize eS : s.heap.objs.size = S at *
  have old : ∀ {b : Addr} {o : Obj}, s.heap.get? b = some o → b ≠ S := fun e => Nat.ne_of_lt (eS ▸ Heap.lt_size e)
  have f1 : S ∉ fp1 := fun m => Nat.lt_irrefl S (l1 S m)
  have f2 : S ∉ fp2 := fun m => Nat.lt_irrefl S (l2 S m)
  -- from any heap where the new list is empty, and all else stands, the loop makes it
  have loop : ∀ (h : Heap) (c tk : Nat), (∀ b o, b ≠ S → s.heap.get? b = some o → h.get? b = some o) → h.get? S = some { cls := .type "list", data := .seq #[] c } →
      codeAny (model prog w) A.in1 (.builtin "list.extend.loop" ⟨[.ref S, .ref z, .none], []⟩) (wants (fun r s₂ => r = .none ∧ Q (.ref S) s₂) E) { s with heap := h, toks := tk } := fun h c tk k atS => by
    refine zl_loop (s := s) (h₁ := s.heap) (S := S) Z D1 D2 (eS ▸ Heap.lt_size hz) (eS ▸ Heap.lt_size hTI) (eS ▸ Heap.lt_size hTO) l1 l2 hsz .none (fun h' t' acc c' as far atS' len g ea => ⟨rfl, hQ h' t' acc c' as (fun b o b1 b2 b3 b4 e => far b o (old e) b1 b2 b3 b4 e) atS' len g ea⟩) n 0 h tk c #[] [] rfl (Nat.zero_le n) ?_ (fun b o nb _ _ _ _ e => k b o nb e) atS rfl rfl ⟨.nil, by simp, by simp⟩
    exact ⟨k _ _ (old hTI) hTI, D1.frame _ _ _ h1 fun b hb o e => k b o (fun q => f1 (q ▸ hb)) e, D2.frame _ _ _ h2 fun b hb o e => k b o (fun q => f2 (q ▸ hb)) e, .inl ⟨k _ _ (old hz) hz, _, _, k _ _ (old hTO) hTO⟩⟩
  have made : (s.heap.push { cls := .type "list", data := .seq #[] }).get? S = some { cls := .type "list", data := .seq #[] } := eS ▸ Heap.get?_push_size _ rfl
  refine callType_codes (Q₁ := fun u t => u = .ref S ∧ t = { s with heap := s.heap.push { cls := .type "list", data := .seq #[] } }) PySem.F.called_list (PySem.F.typeCall_list_1 _) PySem.F.entry_list_init (code_list_new _ ⟨congrArg Value.ref eS, rfl⟩) ?_
  rintro _ _ ⟨rfl, rfl⟩
  have items : ∀ {A : Around} {E : Value → Shared → Prop} {R : Array Value → Shared → Prop} {t : Shared} {c : Nat}, t.heap.get? S = some { cls := .type "list", data := .seq #[] c } → R #[] t → wpAny (model prog w) A (Builtin.List.listItems (.ref S)) R E t := fun e q => by
    unfold Builtin.List.listItems
    exact wpAny_bind (wpAny_seqItems e rfl (wpAny_pure q))
  refine ⟨⟨_, made, rfl⟩, PySem.F.args_list_init_2 _ _, ?_⟩
  refine wpAny_bind (m := Builtin.List.listItems (.ref S)) (items made (wpAny_bind (m := updateSeq S fun _ => #[]) (wpAny_updateSeq made rfl (wpAny_bind (m := letGo []) (wpAny_letGo ?_)))))
  have at2 := Heap.get?_update_self (Obj.mapSeq fun _ => (#[] : Array Value)) made rfl
  have keep2 : ∀ b o, b ≠ S → s.heap.get? b = some o → ((s.heap.push { cls := .type "list", data := .seq #[] }).update S (Obj.mapSeq fun _ => (#[] : Array Value))).get? b = some o := fun b o nb e => (Heap.get?_update_other _ _ (Ne.symm nb)).trans (Heap.get?_push_of_some _ e)
  have hz2 := keep2 _ _ (old hz) hz
  generalize (s.heap.push { cls := .type "list", data := .seq #[] }).update S (Obj.mapSeq fun _ => (#[] : Array Value)) = g2 at at2 keep2 hz2 ⊢
  show wpAny _ _ (Builtin.List.listExtendWith (.ref S) (.ref z) .none) _ _ _
  unfold Builtin.List.listExtendWith
  have other : (Builtin.List.listSameRef (.ref S) (.ref z) || Value.type "zip" == Value.type "list" || Value.type "zip" == Value.type "tuple") = false := by simp [Builtin.List.listSameRef, Ne.symm (old hz)]
  refine wpAny_bind (wpAny_typeOf (T := "zip") ⟨_, hz2, rfl⟩ (PySem.W.KFB.if_not other (wpAny_bind (wpAny_pyIter_zip hz2 (wpAny_bind (wpAny_holding (zip_hint ⟨_, hz2, rfl⟩ ?_)))))))
  refine wpAny_ite_split (fun _ => wpAny_bind (wpAny_rule (wpAny_bind (m := updateSeq S (·.push .none) >>= fun _ => updateSeq S (·.pop)) (list_room (s := { s with heap := g2 }) at2 fun h3 c3 keep3 at3 => ?_)))) fun no => absurd (Bool.true_or _) no
  exact wpAny_pure ⟨plainId_quiet PySem.F.plain_extend_loop _, loop h3 c3 s.toks (fun b o nb e => keep3 b o nb (keep2 b o nb e)) at3⟩
end
end Mz

namespace Mz
open PySem PySem.Spec PyProof.Rows L2 PySem.W PySem.Calls LiI
/-- the tuples tracked at their addresses -/
def putP : Hp → List Addr → List V → List V → Hp
  | H, a :: as, x :: xs, y :: ys => putP (upd H a (.tup [x, y])) as xs ys
  | H, _, _, _ => H
theorem putP_off {b : Addr} : ∀ (as : List Addr) (xs ys : List V) (H : Hp), b ∉ as → putP H as xs ys b = H b
  | [], _, _, _, _ => by unfold putP; rfl
  | _ :: _, [], _, _, _ => by unfold putP; rfl
  | _ :: _, _ :: _, [], _, _ => by unfold putP; rfl
  | a :: as, x :: xs, y :: ys, H, h => by
    show putP (upd H a (.tup [x, y])) as xs ys b = H b
    rw [putP_off as xs ys _ (fun z => h (List.mem_cons_of_mem _ z)), upd_ne (fun z => h (by rw [z]; exact List.mem_cons_self))]
theorem putP_at : ∀ (as : List Addr) (xs ys : List V) (H : Hp), as.length = xs.length → as.length = ys.length → as.Nodup → ∀ (j : Nat) (t : Addr), as[j]? = some t → ∃ x y, xs[j]? = some x ∧ ys[j]? = some y ∧ putP H as xs ys t = some (.tup [x, y])
  | [], _, _, _, _, _, _, j, t, h => by simp at h
  | a :: as, [], _, _, h, _, _, _, _, _ => by cases h
  | a :: as, _ :: _, [], _, _, h, _, _, _, _ => by cases h
  | a :: as, x :: xs, y :: ys, H, h1, h2, hn, j, t, h => by
    have hn' := List.nodup_cons.mp hn
    cases j with
    | zero =>
      simp at h
      subst h
      exact ⟨x, y, rfl, rfl, by show putP (upd H a (.tup [x, y])) as xs ys a = _; rw [putP_off as xs ys _ hn'.1, upd_same]⟩
    | succ j =>
      obtain ⟨x', y', e1, e2, e3⟩ := putP_at as xs ys (upd H a (.tup [x, y])) (Nat.succ.inj h1) (Nat.succ.inj h2) hn'.2 j t (by simpa using h)
      exact ⟨x', y', by simpa using e1, by simpa using e2, e3⟩
def rListZip (K : PySem.W.Frag) : List V → Hp → VK → Prop := fun vs H Q => ∃ (a b : Addr) (xs ys : List V), vs = [.ref a, .ref b] ∧ SqT K H a xs ∧ SqT K H b ys ∧ xs.length = ys.length ∧
  ∀ (H' : Hp) (p : Addr) (ts : List Addr), (∀ b o, H b = some o → H' b = some o) → H p = none → (∀ t ∈ ts, H t = none) → p ∉ ts → H' p = some (.lst (ts.map V.ref)) → ts.length = xs.length → (∀ (j : Nat) (t : Addr), ts[j]? = some t → ∃ x y, xs[j]? = some x ∧ ys[j]? = some y ∧ H' t = some (.tup [x, y])) → Q (.ref p) H'
theorem vals_get : ∀ {xs : List V} {us : List Value}, Vals xs us → ∀ {j : Nat} {u : Value}, us[j]? = some u → ∃ x, xs[j]? = some x ∧ RelV x u
  | _, _, .nil, j, u, h => by simp at h
  | _, _, .cons r t, 0, u, h => by
    simp at h
    subst h
    exact ⟨_, rfl, r⟩
  | _, _, .cons r t, j + 1, u, h => vals_get t (by simpa using h)
/-- more objects are laid and tracked, nothing else changes -/
theorem inv_more {X : Cx} {pins : List (Addr × Obj)} {σ : L2.St} {H H' : Hp} {s : Shared} {h' : Heap} {tk : Nat} (I : Inv X pins σ H s) (hk : ∀ b o, s.heap.get? b = some o → h'.get? b = some o) (ext : ∀ b u, H b = some u → H' b = some u)
    (old : ∀ b o, s.heap.get? b = some o → H b = none → H' b = none) (new : ∀ b u, H b = none → H' b = some u → ObjOk X.prog X.w H' h' b u) : Inv X pins σ H' { s with heap := h', toks := tk } := by
  have grown : Un (frs X.stack) [] H H' s.heap h' :=
    { keep := fun b o e _ _ _ => hk b o e
      slot := fun b o e _ _ _ => ⟨o.slots, hk b o e⟩
      free := fun b o e n _ => old b o e n
      there := fun b o e _ => ⟨o, hk b o e⟩
      tups := fun b _ e => ext b _ e
      frzs := fun b _ _ e => ext b _ e
      tbls := fun b ps e => ⟨#[], by rw [Array.append_empty]; exact ext b _ e⟩ }
  refine I.call' (s' := { s with heap := h', toks := tk }) rfl grown (fun b v e => ?_) I.bare (by simp)
  cases z : H b with
  | none => exact new b v z e
  | some w =>
    obtain rfl : w = v := Option.some.inj ((ext b w z).symm.trans e)
    exact (I.hok b w z).stay (fun d o _ y => hk d o y) (fun d y => ext d _ y) fun d xs y => ext d _ y
section
variable {X : Cx}
theorem zip_laid {pins : List (Addr × Obj)} {σ : L2.St} {H : Hp} {s : Shared} {h' : Heap} {tk : Nat} {xs ys : List V} {us ws : List Value} {acc : Array Value} {c : Nat} {as : List Addr} {S : Addr} (I : Inv X pins σ H s) (hSl : s.heap.objs.size ≤ S) (hz : xs.length ≤ sizeLine) (r1 : Vals xs us) (r2 : Vals ys ws) (hxy : xs.length = ys.length)
    (hk : ∀ b o, s.heap.get? b = some o → h'.get? b = some o) (hS : h'.get? S = some { cls := .type "list", dict := none, data := .seq acc c, slots := #[] }) (hl : as.length = xs.length) (hG : Gv (fun j v => us.toArray[j]? = some v) (fun j v => ws.toArray[j]? = some v) S h' as) (hacc : acc.toList = as.map Value.ref) :
    ∃ H' : Hp, (∀ b o, H b = some o → H' b = some o) ∧ H S = none ∧ (∀ t ∈ as, H t = none) ∧ S ∉ as ∧ H' S = some (.lst (as.map V.ref)) ∧ (∀ (j : Nat) (t : Addr), as[j]? = some t → ∃ x y, xs[j]? = some x ∧ ys[j]? = some y ∧ H' t = some (.tup [x, y])) ∧ Inv X pins σ H' { s with heap := h', toks := tk } := by
  have late : ∀ {b}, (b = S ∨ b ∈ as) → s.heap.objs.size ≤ b := fun {b} z => z.elim (fun e => e ▸ hSl) fun m => Nat.le_trans hSl (Nat.le_of_lt (hG.above b m))
  have no : ∀ {b}, (b = S ∨ b ∈ as) → H b = none := fun z => I.hok.fresh (late z)
  have nS : S ∉ as := fun m => absurd (hG.above S m) (Nat.lt_irrefl S)
  generalize eH : putP (upd H S (.lst (as.map V.ref))) as xs ys = H'
  have out : ∀ {b}, ¬ (b = S ∨ b ∈ as) → H' b = H b := fun {b} z => by
    rw [← eH, putP_off as xs ys _ (fun m => z (.inr m))]
    exact upd_ne fun e => z (.inl e)
  have atS : H' S = some (.lst (as.map V.ref)) := by
    rw [← eH, putP_off as xs ys _ nS]
    exact upd_same
  have atT : ∀ (j : Nat) (t : Addr), as[j]? = some t → ∃ x y, xs[j]? = some x ∧ ys[j]? = some y ∧ H' t = some (.tup [x, y]) := eH ▸ putP_at as xs ys _ hl (hl.trans hxy) (hG.rise.imp fun lt => Nat.ne_of_lt lt)
  have ext : ∀ b u, H b = some u → H' b = some u := fun b u e => (out fun z => by rw [no z] at e; cases e).trans e
  refine ⟨H', ext, no (.inl rfl), fun t m => no (.inr m), nS, atS, atT, inv_more I hk ext (fun b o e n => (out fun z => Nat.not_lt.mpr (late z) (Heap.lt_size e)).trans n) fun b u n e => ?_⟩
  by_cases z : b = S ∨ b ∈ as
  · rcases z with rfl | m
    · cases atS.symm.trans e
      exact ⟨by rw [List.length_map, hl]; exact hz, acc.toList, c, hacc ▸ LiI.vals_refs as, by rw [Array.toArray_toList]; exact hS⟩
    · obtain ⟨j, ej⟩ := List.mem_iff_getElem?.mp m
      obtain ⟨x, y, ex, ey, et⟩ := atT j b ej
      cases et.symm.trans e
      obtain ⟨u1, u2, f1, f2, pair⟩ := hG.pairs j b ej
      obtain ⟨x1, g1, rx⟩ := vals_get r1 (by simpa using f1)
      obtain ⟨y1, g2, ry⟩ := vals_get r2 (by simpa using f2)
      cases ex.symm.trans g1
      cases ey.symm.trans g2
      exact ⟨by show 2 ≤ sizeLine; decide, _, .cons rx (.cons ry .nil), ⟨_, pair, rfl, _, rfl⟩⟩
  · rw [out z, n] at e
    cases e
/-- zip(v1, v2) of two sequences of one length, and list of it -/
theorem zip_listed {pins : List (Addr × Obj)} {σ : L2.St} {H : Hp} {s : Shared} {Q : VK} {v1 v2 : Value} {o1 o2 : Obj} {B1 B2 : Heap → Prop} {l1 l2 : Addr} {T1 T2 : Addr → Nat → Heap → Prop} {xs ys : List V} {us ws : List Value} (hc : X.calm = true) (I : Inv X pins σ H s) (b1 : Begins v1 o1 B1) (b2 : Begins v2 o2 B2) (h1 : B1 s.heap) (h2 : B2 s.heap)
    (lt1 : l1 < s.heap.objs.size) (lt2 : l2 < s.heap.objs.size) (D1 : ∀ {A : Around} {i : Addr}, A.handled = none → l1 ≠ i → Draws X.prog X.w A i [i, l1] us.toArray.size (fun j v => us.toArray[j]? = some v) (T1 i)) (D2 : ∀ {A : Around} {i : Addr}, A.handled = none → l2 ≠ i → Draws X.prog X.w A i [i, l2] ws.toArray.size (fun j v => ws.toArray[j]? = some v) (T2 i))
    (t1 : ∀ {i : Addr} {h' : Heap}, h'.get? i = some o1 → (∀ b o, s.heap.get? b = some o → h'.get? b = some o) → T1 i 0 h') (t2 : ∀ {i : Addr} {h' : Heap}, h'.get? i = some o2 → (∀ b o, s.heap.get? b = some o → h'.get? b = some o) → T2 i 0 h')
    (fit : xs.length ≤ sizeLine) (r1 : Vals xs us) (r2 : Vals ys ws) (same : xs.length = ys.length)
    (fin : ∀ (H' : Hp) (p : Addr) (ts : List Addr), (∀ b o, H b = some o → H' b = some o) → H p = none → (∀ t ∈ ts, H t = none) → p ∉ ts → H' p = some (.lst (ts.map V.ref)) → ts.length = xs.length → (∀ (j : Nat) (t : Addr), ts[j]? = some t → ∃ x y, xs[j]? = some x ∧ ys[j]? = some y ∧ H' t = some (.tup [x, y])) → Q (.ref p) H') :
    wpAny (model X.prog X.w) X.A (call (.type "zip") [v1, v2]) (fun u s2 => wpAny (model X.prog X.w) X.A (call (.type "list") [u]) (EP X pins σ Q) X.xe s2) X.xe s := by
  have n1 : us.toArray.size = xs.length := by rw [List.size_toArray, r1.length]
  have n2 : ws.toArray.size = xs.length := by rw [List.size_toArray, ← r2.length, same]
  have hh : X.A.in1.in1.in1.handled = none := I.ok.hd hc
  have low : ∀ {b : Addr} (k : Nat), b < s.heap.objs.size → b ≠ s.heap.objs.size + k := fun k lt => Nat.ne_of_lt (Nat.lt_of_lt_of_le lt (Nat.le_add_right _ k))
  refine zip_begins2 b1 b2 h1 h2 fun h' hz hI hO g1 g2 size hk => ?_
  have below : ∀ {b l : Addr} {k : Nat}, k < 5 → l < s.heap.objs.size → b ∈ [s.heap.objs.size + k, l] → b < h'.objs.size := fun {b l k} hk hl m => by
    rw [size]
    simp only [List.mem_cons, List.not_mem_nil, or_false] at m
    obtain rfl | rfl := m
    · exact Nat.add_lt_add_left hk _
    · exact Nat.lt_of_lt_of_le hl (Nat.le_add_right _ _)
  refine zl_call (s := { s with heap := h' }) (zip_sep2 (fp1 := [l1]) (fp2 := [l2]) (by simpa using lt1) (by simpa using lt2)) (n1 ▸ D1 hh (low 0 lt1)) (n2 ▸ D2 hh (low 1 lt2)) hz hI hO (t1 g1 hk) (t2 g2 hk) (fun b m => below (k := 0) (by decide) lt1 m) (fun b m => below (k := 1) (by decide) lt2 m) fit fun h2 tk acc c as far atS len g ea => ?_
  obtain ⟨H', k1, k2, k3, k4, k5, k6, J⟩ := zip_laid (X := X) (tk := tk) (S := h'.objs.size) I (by rw [size]; exact Nat.le_add_right _ _) fit r1 r2 same (fun b o e => have lt := Heap.lt_size e; far b o (low 4 lt) (low 3 lt) (low 0 lt) (low 1 lt) (hk b o e)) atS len g ea
  exact ⟨.ref _, H', J, rfl, fin H' _ as k1 k2 k3 k4 k5 len k6⟩
theorem pe_listZip {e e2 : Expr} {ta : TA} {p p2 q pos : Pos} (hc : X.calm = true) (hg : Gl X "list") (hm : X.mg "list" = none) (hg2 : Gl X "zip") (hm2 : X.mg "zip" = none) (ha : PA X [e, e2] ta)
    (hs : starEach [e, e2] X.env = (false, eval e X.env) :: starEach [e2] X.env := by rfl) (hpl : (backTo q (starEach [e2] X.env)).any (·.1) = false := by rfl)
    (na : starEach [.Call (.Name "zip" p2) [e, e2] [] q] X.env = (false, eval (.Call (.Name "zip" p2) [e, e2] [] q) X.env) :: starEach [] X.env := by rfl) :
    PE X (.Call (.Name "list" p) [.Call (.Name "zip" p2) [e, e2] [] q] [] pos) (fun σ H Q => ta σ H fun vs H1 => rListZip X.K vs H1 Q) := by
  constructor
  intro pins s σ H Q I h
  refine Call_ (ld_blt I hg hm boot_list (PyProof.Rows.callWith_type1 (args_cons (Call_ (ld_blt I hg2 hm2 PyProof.Rows.boot_zip (PyProof.Rows.callWith_type1 (thn (ha.run q pins s σ H _ I h) fun us s1 r => ?_) hs hpl))) na) na))
  obtain ⟨_, H1, J, rel, a, b, xs, ys, rfl, hx, hy, same, fin⟩ := r
  obtain rfl : us = [.ref a, .ref b] := by
    cases rel with | cons r1 rel => cases rel with | cons r2 rel => cases r1; cases r2; cases rel; rfl
  obtain ⟨us1, rv1, p1, fit⟩ := J.tuple hx
  obtain ⟨us2, rv2, p2, _⟩ := J.tuple hy
  refine wpAny_mono (zip_listed hc J (begins_tuple a us1.toArray) (begins_tuple b us2.toArray) p1 p2 (let ⟨_, e, _⟩ := p1; Heap.lt_size e) (let ⟨_, e, _⟩ := p2; Heap.lt_size e) (fun hh ne => Draws.tuple hh _ a ne us1.toArray) (fun hh ne => Draws.tuple hh _ b ne us2.toArray)
    (fun g k => ⟨⟨_, g, rfl, rfl⟩, Heap.IsTuple.at p1 fun o e => k _ o e⟩) (fun g k => ⟨⟨_, g, rfl, rfl⟩, Heap.IsTuple.at p2 fun o e => k _ o e⟩) fit rv1 rv2 same fin) (fun u s2 z => args_nil z) fun _ _ z => z
end
end Mz
namespace M
open PySem PySem.Spec PyProof.Rows L2
def lzE (f g : Rho → R D) : Rho → R D := fun ρ => (f ρ).bind fun d => (g ρ).bind fun e => match d, e with
  | .tuple xs, .tuple ys => if xs.length = ys.length then .ok (.list (zipD xs ys)) else .bad
  | _, _ => .bad
theorem QA.of_get {K : PySem.W.Frag} {ns : Sc} {G : Hp} : ∀ {ds : List D} {vs : List V}, vs.length = ds.length → (∀ (i : Nat) (v : V) (d : D), vs[i]? = some v → ds[i]? = some d → Q K ns G v d) → QA K ns G vs ds
  | [], [], _, _ => .nil
  | [], _ :: _, h, _ => by cases h
  | _ :: _, [], h, _ => by cases h
  | d :: ds, v :: vs, h, k => .cons (k 0 v d rfl rfl) (QA.of_get (Nat.succ.inj h) fun i v d h1 h2 => k (i + 1) v d (by simpa using h1) (by simpa using h2))
section
variable {X : Cx} {c : Cm} {W : WM}
theorem me_listZip {a b : Expr} {f g : Rho → R D} {p p2 q pos : Pos} (hc : X.calm = true) (hg : Gl X "list") (hm : X.mg "list" = none) (hg2 : Gl X "zip") (hm2 : X.mg "zip" = none) (ha : ME X c W a f) (hb : ME X c W b g) (hs1 : starEach [a, b] X.env = (false, eval a X.env) :: starEach [b] X.env := by rfl) (hs2 : starEach [b] X.env = (false, eval b X.env) :: starEach [] X.env := by rfl)
    (hpl : (backTo q (starEach [b] X.env)).any (·.1) = false := by rfl) (na : starEach [.Call (.Name "zip" p2) [a, b] [] q] X.env = (false, eval (.Call (.Name "zip" p2) [a, b] [] q) X.env) :: starEach [] X.env := by rfl) :
    ME X c W (.Call (.Name "list" p) [.Call (.Name "zip" p2) [a, b] [] q] [] pos) (lzE f g) :=
  PE.imp (Mz.pe_listZip hc hg hm hg2 hm2 (pa_cons ha (pa_cons hb pa_nil hs2) hs1) hs1 hpl na) fun σ H Qk ⟨G, ρ, ok, p⟩ => step ok p fun d G1 H1 v e1 g1 r1 ok1 p1 => step ok1 p1 fun d2 G2 H2 v2 e2 g2 r2 ok2 p2 => by
  have r3 := Q.mono g2.g _ _ r1
  clear r1
  split at p2
  · rename_i xs ys
    by_cases hl : xs.length = ys.length
    · rw [if_pos hl] at p2
      cases r3 with
      | tup h1 h2 =>
        cases r2 with
        | tup h3 h4 =>
          rename_i a us b ws
          refine ⟨a, b, us, ws, rfl, SqT.same ok2.s.same h1, SqT.same ok2.s.same h3, by rw [h2.length, h4.length, hl], fun H' p ts k1 k2 k3 k4 k5 k6 k7 => ?_⟩
          have sm : Same G2 (fun b => if b = p ∨ b ∈ ts then H' b else G2 b) := fun b o e => by
            have hb : ¬ (b = p ∨ b ∈ ts) := fun z => by
              have := (ok2.s b o e).1
              rcases z with rfl | z
              · rw [k2] at this; cases this
              · rw [k3 b z] at this; cases this
            show (if b = p ∨ b ∈ ts then H' b else G2 b) = some o
            rw [if_neg hb]
            exact e
          have gr : Gr G2 H2 (fun b => if b = p ∨ b ∈ ts then H' b else G2 b) H' := by
            refine ⟨sm, .of k1, fun b o e => ?_, fun b o hb _ gb => ?_⟩
            · by_cases z : b = p ∨ b ∈ ts
              · have e' : H' b = some o := by
                  have : (if b = p ∨ b ∈ ts then H' b else G2 b) = some o := e
                  rw [if_pos z] at this
                  exact this
                clear e
                refine ⟨e', fun ps => ?_⟩
                rcases z with rfl | z
                · rw [k5] at e'
                  cases e'
                  exact nt_lst ps
                · obtain ⟨j, hj⟩ := List.mem_iff_getElem?.mp z
                  obtain ⟨x, y, _, _, e3⟩ := k7 j b hj
                  rw [e3] at e'
                  cases e'
                  exact nt_tup ps
              · have e : G2 b = some o := by
                  have : (if b = p ∨ b ∈ ts then H' b else G2 b) = some o := e
                  rw [if_neg z] at this
                  exact this
                exact ⟨k1 b o (ok2.s b o e).1, (ok2.s b o e).2⟩
            · have z : ¬ (b = p ∨ b ∈ ts) := fun z => by
                rcases z with rfl | z
                · rw [k2] at hb; cases hb
                · rw [k3 b z] at hb; cases hb
              show (if b = p ∨ b ∈ ts then H' b else G2 b) = none
              rw [if_neg z]
              exact gb
          refine p2 _ H' _ gr (.lst (by show (if p = p ∨ p ∈ ts then H' p else G2 p) = some _; rw [if_pos (.inl rfl)]; exact k5) (QA.of_get (by rw [List.length_map, k6, h2.length]; unfold zipD; rw [List.length_zipWith]; omega) fun i v d hv hd => ?_))
          obtain ⟨x, y, f1, f2, rfl⟩ := zip_get hd
          rw [List.getElem?_map] at hv
          cases ht : ts[i]? with
          | none => rw [ht] at hv; cases hv
          | some t =>
            rw [ht] at hv
            cases hv
            obtain ⟨x', y', q1, q2, q3⟩ := k7 i t ht
            obtain ⟨u, q4, q5⟩ := h2.get f1
            obtain ⟨w, q6, q7⟩ := h4.get f2
            rw [q1] at q4
            rw [q2] at q6
            cases q4
            cases q6
            exact .tup (.inl (.inl (by show (if t = p ∨ t ∈ ts then H' t else G2 t) = some _; rw [if_pos (.inr (List.mem_of_getElem? ht))]; exact q3))) (.cons (Q.mono sm _ _ q5) (.cons (Q.mono sm _ _ q7) .nil))
    · rw [if_neg hl] at p2; exact p2.elim
  · exact p2.elim
/-! ### range(a, b, c), c > 0 -/
def rngC (lo c : Int) (n : Nat) : List D := (List.range n).map fun (i : Nat) => .int (lo + (i : Int) * c)
theorem it_rngC {K : PySem.W.Frag} {ns : Sc} {lo c : Int} {n : Nat} : ItOk K ns (Itc lo c n) (fun _ => True) (rngC lo c n) where
  mono := fun _ _ _ _ => trivial
  go := fun G H i d p s e => by
    have := (List.getElem?_eq_some_iff.mp e).1
    show i < n
    simpa [rngC] using this
  yld := fun G H i d x H' p s e y => by
    obtain ⟨rfl, rfl⟩ := y
    refine ⟨G, Gr.refl s, ?_⟩
    have hi := (List.getElem?_eq_some_iff.mp e).1
    simp only [rngC, List.length_map, List.length_range] at hi
    rw [rngC, List.getElem?_map, List.getElem?_range hi] at e
    cases e
    exact .int _
  stop := fun G H p s => by
    show n ≤ (rngC lo c n).length
    simp [rngC]
/-- how many -/
def rgN (a b c : Int) : Nat := if a < b then ((b - a - 1) / c + 1).toNat else 0
def rg3 (f g h : Rho → R D) : Rho → R (List D) := fun ρ => (f ρ).bind fun d => (g ρ).bind fun e => (h ρ).bind fun k => match d, e, k with
  | .int i, .int j, .int c => if -1000000000 ≤ i ∧ i ≤ 1000000000 ∧ -1000000000 ≤ j ∧ j ≤ 1000000000 ∧ 0 < c ∧ c ≤ 1000000000 then .ok (rngC i c (rgN i j c)) else .bad
  | _, _, _ => .bad
theorem rgC_pos {i j c : Int} (h : -1000000000 ≤ i ∧ i ≤ 1000000000 ∧ -1000000000 ≤ j ∧ j ≤ 1000000000 ∧ 0 < c ∧ c ≤ 1000000000) : RgC i j c (rgN i j c) := by
  obtain ⟨h1, h2, h3, h4, h5, h6⟩ := h
  have e : Builtin.Range.rangeSize i j c = (rgN i j c : Nat) := by
    unfold Builtin.Range.rangeSize rgN
    rw [if_pos h5]
    split
    · rename_i hlt
      have : 0 ≤ (j - i - 1) / c := Int.ediv_nonneg (by omega) (by omega)
      omega
    · rfl
  have hb : (rgN i j c : Int) ≤ 2000000001 := by
    unfold rgN
    split
    · rename_i hlt
      have : (j - i - 1) / c ≤ j - i - 1 := Int.ediv_le_self _ (by omega)
      omega
    · omega
  have hb2 : 0 < rgN i j c → i + ((rgN i j c : Int) - 1) * c ≤ j := by
    unfold rgN
    split
    · rename_i hlt
      intro _
      have h0 : 0 ≤ (j - i - 1) / c := Int.ediv_nonneg (by omega) (by omega)
      have : (j - i - 1) / c * c ≤ j - i - 1 := Int.ediv_mul_le _ (by omega)
      rw [show ((((j - i - 1) / c + 1).toNat : Nat) : Int) - 1 = (j - i - 1) / c by omega]
      omega
    · intro z; omega
  refine ⟨by omega, by omega, ?_, e⟩
  unfold Builtin.Range.small
  rw [e]
  simp only [Builtin.Range.rangeFitsLong, Bool.and_eq_true, Bool.or_eq_true, decide_eq_true_eq, beq_iff_eq, h5, if_true]
  omega
theorem mi_range3 {tg a b e : Expr} {f g h : Rho → R D} {p pos : Pos} (hg : Gl X "range") (hm : X.mg "range" = none) (ha : MB X c W a f) (hb : MB X c W b g) (he : MB X c W e h) (hs1 : starEach [a, b, e] X.env = (false, eval a X.env) :: starEach [b, e] X.env := by rfl) (hs2 : starEach [b, e] X.env = (false, eval b X.env) :: starEach [e] X.env := by rfl) (hs3 : starEach [e] X.env = (false, eval e X.env) :: starEach [] X.env := by rfl)
    (hpl : (backTo pos (starEach [b, e] X.env)).any (·.1) = false := by rfl) :
    MI X c W tg (.Call (.Name "range" p) [a, b, e] [] pos) (rg3 f g h) := PI.imp (pi_range3 hg hm (pa_cons ha (pa_cons hb (pa_cons he pa_nil hs3) hs2) hs1) hs1 hpl) fun σ H Rk ⟨G, ρ, ok, p⟩ => stepI ok p fun d G1 H1 v e1 g1 r1 ok1 p1 => stepI ok1 p1 fun d2 G2 H2 v2 e2 g2 r2 ok2 p2 => stepI ok2 p2 fun d3 G3 H3 v3 e3 g3 r3 ok3 p3 => by
  split at p3
  · rename_i i j k
    split at p3
    · rename_i hj
      obtain rfl := r1.int
      obtain rfl := r2.int
      obtain rfl := r3.int
      exact ⟨_, _, _, _, rfl, rgC_pos hj, p3 G3 H3 _ _ (Gr.refl ok3.s) it_rngC trivial⟩
    · exact p3.elim
  · exact p3.elim
end
end M

namespace G
open PySem PySem.Spec PyProof.Rows L2 M
def topS (i : Nat) : Stmt := PySem.Challenge.pw_turntracks_k78_whole_shafts_held.main.body.getD i (.Pass ⟨0, 0, 0, 0⟩)
abbrev s_is_whole : Stmt := topS 5
theorem sc_is_whole : FnScope ["thing", "low", "high"] ["thing", "low", "high"] (defScope s_is_whole) := ⟨rfl, rfl, rfl, by decide +kernel, rfl, by decide +kernel, by decide +kernel⟩
abbrev s_are_wheels : Stmt := topS 10
theorem sc_are_wheels : FnScope ["thing", "one"] ["thing"] (defScope s_are_wheels) := ⟨rfl, rfl, rfl, by decide +kernel, rfl, by decide +kernel, by decide +kernel⟩
abbrev s_look_wheels : Stmt := topS 11
theorem sc_look_wheels : FnScope ["wheels"] ["wheels"] (defScope s_look_wheels) := ⟨rfl, rfl, rfl, by decide +kernel, rfl, by decide +kernel, by decide +kernel⟩
abbrev s_is_any_whole : Stmt := topS 6
theorem sc_is_any_whole : FnScope ["thing"] ["thing"] (defScope s_is_any_whole) := ⟨rfl, rfl, rfl, by decide +kernel, rfl, by decide +kernel, by decide +kernel⟩
abbrev s_readings : Stmt := topS 14
theorem sc_readings : FnScope ["wheels", "place", "wheel"] ["wheels", "place"] (defScope s_readings) := ⟨rfl, rfl, rfl, by decide +kernel, rfl, by decide +kernel, by decide +kernel⟩
abbrev s__law_cell : Stmt := topS 22
theorem sc__law_cell : FnScope ["script", "k"] ["script", "k"] (defScope s__law_cell) := ⟨rfl, rfl, rfl, by decide +kernel, rfl, by decide +kernel, by decide +kernel⟩
abbrev s__law_pick : Stmt := topS 23
theorem sc__law_pick : FnScope ["script", "k", "many", "drawn"] ["script", "k", "many"] (defScope s__law_pick) := ⟨rfl, rfl, rfl, by decide +kernel, rfl, by decide +kernel, by decide +kernel⟩
abbrev s_look_readings : Stmt := topS 15
theorem sc_look_readings : FnScope ["wheels", "given", "one", "wheel"] ["wheels", "given"] (defScope s_look_readings) := ⟨rfl, rfl, rfl, by decide +kernel, rfl, by decide +kernel, by decide +kernel⟩
abbrev s_apart : Stmt := topS 17
theorem sc_apart : FnScope ["wheel", "one", "other"] ["wheel", "one", "other"] (defScope s_apart) := ⟨rfl, rfl, rfl, by decide +kernel, rfl, by decide +kernel, by decide +kernel⟩
abbrev s_is_near : Stmt := topS 18
theorem sc_is_near : FnScope ["wheels", "given", "place", "slack", "some", "wheel", "one"] ["wheels", "given", "place", "slack"] (defScope s_is_near) := ⟨rfl, rfl, rfl, by decide +kernel, rfl, by decide +kernel, by decide +kernel⟩
abbrev s_size_of : Stmt := topS 12
theorem sc_size_of : FnScope ["wheels", "made", "wheel", "one", "other"] ["wheels"] (defScope s_size_of) := ⟨rfl, rfl, rfl, by decide +kernel, rfl, by decide +kernel, by decide +kernel⟩
abbrev s_near : Stmt := topS 19
theorem sc_near : FnScope ["wheels", "given", "slack", "place"] ["wheels", "given", "slack"] (defScope s_near) := ⟨rfl, rfl, rfl, by decide +kernel, rfl, by decide +kernel, by decide +kernel⟩
abbrev s_whole : Stmt := topS 13
theorem sc_whole : FnScope ["wheels"] ["wheels"] (defScope s_whole) := ⟨rfl, rfl, rfl, by decide +kernel, rfl, by decide +kernel, by decide +kernel⟩
abbrev s_place_by : Stmt := topS 16
theorem sc_place_by : FnScope ["wheels", "given", "place", "size", "wheel", "one", "some", "again"] ["wheels", "given"] (defScope s_place_by) := ⟨rfl, rfl, rfl, by decide +kernel, rfl, by decide +kernel, by decide +kernel⟩
abbrev s_most_slack : Stmt := topS 20
theorem sc_most_slack : FnScope ["wheels", "made", "place", "far", "wheel"] ["wheels"] (defScope s_most_slack) := ⟨rfl, rfl, rfl, by decide +kernel, rfl, by decide +kernel, by decide +kernel⟩
abbrev s_law : Stmt := topS 24
theorem sc_law : FnScope ["script", "wheels", "told", "by", "slack", "slipped", "k", "some", "one", "size", "place", "there", "far", "wheel"] ["script"] (defScope s_law) := ⟨rfl, rfl, rfl, by decide +kernel, rfl, by decide +kernel, by decide +kernel⟩
structure Txt (K : PySem.W.Frag) (mg : Str → Option Value) where
  a_is_whole : Addr
  d_is_whole : FuncData
  F_is_whole : Fun K "is_whole" "is_whole" s_is_whole a_is_whole d_is_whole
  g_is_whole : mg "is_whole" = some (.ref a_is_whole)
  b_is_whole : L2.Binds K d_is_whole ["thing", "low", "high"] []
  a_are_wheels : Addr
  d_are_wheels : FuncData
  F_are_wheels : Fun K "are_wheels" "are_wheels" s_are_wheels a_are_wheels d_are_wheels
  g_are_wheels : mg "are_wheels" = some (.ref a_are_wheels)
  b_are_wheels : L2.Binds K d_are_wheels ["thing"] []
  a_look_wheels : Addr
  d_look_wheels : FuncData
  F_look_wheels : Fun K "look_wheels" "look_wheels" s_look_wheels a_look_wheels d_look_wheels
  g_look_wheels : mg "look_wheels" = some (.ref a_look_wheels)
  b_look_wheels : L2.Binds K d_look_wheels ["wheels"] []
  a_is_any_whole : Addr
  d_is_any_whole : FuncData
  F_is_any_whole : Fun K "is_any_whole" "is_any_whole" s_is_any_whole a_is_any_whole d_is_any_whole
  g_is_any_whole : mg "is_any_whole" = some (.ref a_is_any_whole)
  b_is_any_whole : L2.Binds K d_is_any_whole ["thing"] []
  a_readings : Addr
  d_readings : FuncData
  F_readings : Fun K "readings" "readings" s_readings a_readings d_readings
  g_readings : mg "readings" = some (.ref a_readings)
  b_readings : L2.Binds K d_readings ["wheels", "place"] []
  a__law_cell : Addr
  d__law_cell : FuncData
  F__law_cell : Fun K "_law_cell" "_law_cell" s__law_cell a__law_cell d__law_cell
  g__law_cell : mg "_law_cell" = some (.ref a__law_cell)
  b__law_cell : L2.Binds K d__law_cell ["script", "k"] []
  a__law_pick : Addr
  d__law_pick : FuncData
  F__law_pick : Fun K "_law_pick" "_law_pick" s__law_pick a__law_pick d__law_pick
  g__law_pick : mg "_law_pick" = some (.ref a__law_pick)
  b__law_pick : L2.Binds K d__law_pick ["script", "k", "many"] []
  a_look_readings : Addr
  d_look_readings : FuncData
  F_look_readings : Fun K "look_readings" "look_readings" s_look_readings a_look_readings d_look_readings
  g_look_readings : mg "look_readings" = some (.ref a_look_readings)
  b_look_readings : L2.Binds K d_look_readings ["wheels", "given"] []
  a_apart : Addr
  d_apart : FuncData
  F_apart : Fun K "apart" "apart" s_apart a_apart d_apart
  g_apart : mg "apart" = some (.ref a_apart)
  b_apart : L2.Binds K d_apart ["wheel", "one", "other"] []
  a_is_near : Addr
  d_is_near : FuncData
  F_is_near : Fun K "is_near" "is_near" s_is_near a_is_near d_is_near
  g_is_near : mg "is_near" = some (.ref a_is_near)
  b_is_near : L2.Binds K d_is_near ["wheels", "given", "place", "slack"] []
  a_size_of : Addr
  d_size_of : FuncData
  F_size_of : Fun K "size_of" "size_of" s_size_of a_size_of d_size_of
  g_size_of : mg "size_of" = some (.ref a_size_of)
  b_size_of : L2.Binds K d_size_of ["wheels"] []
  a_near : Addr
  d_near : FuncData
  F_near : Fun K "near" "near" s_near a_near d_near
  g_near : mg "near" = some (.ref a_near)
  b_near : L2.Binds K d_near ["wheels", "given", "slack"] []
  a_whole : Addr
  d_whole : FuncData
  F_whole : Fun K "whole" "whole" s_whole a_whole d_whole
  g_whole : mg "whole" = some (.ref a_whole)
  b_whole : L2.Binds K d_whole ["wheels"] []
  a_place_by : Addr
  d_place_by : FuncData
  F_place_by : Fun K "place_by" "place_by" s_place_by a_place_by d_place_by
  g_place_by : mg "place_by" = some (.ref a_place_by)
  b_place_by : L2.Binds K d_place_by ["wheels", "given"] []
  a_most_slack : Addr
  d_most_slack : FuncData
  F_most_slack : Fun K "most_slack" "most_slack" s_most_slack a_most_slack d_most_slack
  g_most_slack : mg "most_slack" = some (.ref a_most_slack)
  b_most_slack : L2.Binds K d_most_slack ["wheels"] []
  a_law : Addr
  d_law : FuncData
  F_law : Fun K "law" "law" s_law a_law d_law
  g_law : mg "law" = some (.ref a_law)
  b_law : L2.Binds K d_law ["script"] []
  z_all : mg "all" = none
  z_bool : mg "bool" = none
  z_int : mg "int" = none
  z_isinstance : mg "isinstance" = none
  z_len : mg "len" = none
  z_list : mg "list" = none
  z_max : mg "max" = none
  z_min : mg "min" = none
  z_range : mg "range" = none
  z_set : mg "set" = none
  z_sorted : mg "sorted" = none
  z_tuple : mg "tuple" = none
  z_zip : mg "zip" = none
  t_MOST_WHEELS : Tok
  c_MOST_WHEELS : mg "MOST_WHEELS" = some (.int 3 t_MOST_WHEELS)
  t_MOST_SLACK : Tok
  c_MOST_SLACK : mg "MOST_SLACK" = some (.int 9 t_MOST_SLACK)
section
variable {Pr : Program} {w : World} {K : PySem.W.Frag} {mg : Str → Option Value} {base : Heap} {ns : Sc} {l : List Int}
def tl0_is_whole : Rho → Out := (sRet (andV (e1 (isiE .int) (bnm 0)) (andV (notV (e1 (isiE .bool) (bnm 0))) (bv (chE leD leD (bnm 1) (bnm 0) (bnm 2))))))
def m_is_whole : List D → Out := fnM0 3 3 (tl0_is_whole)
theorem ok_is_whole (T : Txt K mg) : FnOk Pr w K mg base CX0 1 T.a_is_whole T.d_is_whole ["thing", "low", "high"] (spM K ns mg m_is_whole) := by
  refine fnOk T.F_is_whole sc_is_whole (fun cdv A outer s H E c hc hr => ?_)
  subst hc
  exact (mss_one (ms_ret (me_and (mb (me_isi .int (by rfl) T.z_isinstance bt_isinstance (mb_name 0 (pv 0)) (pe_bltn (by rfl) T.z_int bt_int rfl))) (me_and (mb (me_not (mb (me_isi .bool (by rfl) T.z_isinstance bt_isinstance (mb_name 0 (pv 0)) (pe_bltn (by rfl) T.z_bool bt_bool rfl))))) (me_one (me_chain op_le op_le cmd_le cmd_le (mb_name 1 (pv 1)) (mb_name 0 (pv 0)) (mb_name 2 (pv 2))))))))
def ce1_are_wheels : Rho → R D := (call m_is_whole (cons' (nm 1) (cons' (cst (.int 2)) (cons' (cst (.int 16)) (cst [])))))
def tl1_are_wheels : Rho → Out := (sRet (e1 allD (cons' (lcD (lcE [1] (itE (nm 0)) (bName 1) yes ce1_are_wheels)) (cst []))))
def tl0_are_wheels : Rho → Out := (sSeq (sIf (orT (notT (e1 asB (e1 (isiE .tuple) (bnm 0)))) (notT (chE leD leD (cst (.int 1)) (e1 lenD (cons' (bnm 0) (cst []))) (cst (.int 3))))) (sRet (cst (.bool false))) sNil) tl1_are_wheels)
def m_are_wheels : List D → Out := fnM0 1 2 (tl0_are_wheels)
theorem ok_are_wheels (T : Txt K mg) : FnOk Pr w K mg base CX0 2 T.a_are_wheels T.d_are_wheels ["thing"] (spM K ns mg m_are_wheels) := by
  refine fnOk T.F_are_wheels sc_are_wheels (fun cdv A outer s H E c hc hr => ?_)
  subst hc
  exact (mss_cons (ms_if (mt_w (mw_or (mt_not (mt_val (mb (me_isi .tuple (by rfl) T.z_isinstance bt_isinstance (mb_name 0 (pv 0)) (pe_bltn (by rfl) T.z_tuple bt_tuple rfl))))) (mw_or1 (mt_not (mt_chain op_le op_le cmd_le cmd_le (mb me_int) (mb (me_callB call_len cad_len (by rfl) T.z_len bt_len (mba_cons (mb_name 0 (pv 0)) mba_nil))) (mb (me_globI (by rfl) T.c_MOST_WHEELS))))))) (mss_one (ms_ret me_bl)) mss_nil)
    (mss_one (ms_ret (me_callB (cr_all rfl) cad_all (by rfl) T.z_all bt_all (mba_cons (mb (me_lc (own := [("one", 1)]) rfl sc_are_wheels.nd (mi_of (me_name 0 (pv 0))) (blkOk_by (N := ["thing", "one"]) (sc := defScope s_are_wheels) (by decide +kernel)) (fun _ _ _ _ _ => (pg_name (i := 1) sc_are_wheels.nd rfl (by first | exact Or.inl rfl | exact Or.inr rfl))) (tg_name 1) (fun _ _ _ _ _ => pts_nil) (fun _ _ _ z => yes_ok z) (fun _ _ _ _ _ => (me_call (ok_is_whole T) (hr.mono (by decide)) (by rfl) T.g_is_whole T.F_is_whole.kp T.b_is_whole (ma_cons (me_name 1 (pv 1)) (ma_cons me_int (ma_cons me_int ma_nil))))))) mba_nil)))))
def tl0_look_wheels : Rho → Out := (sIf (notT (e1 asB (call m_are_wheels (cons' (nm 0) (cst []))))) sBad sNil)
def m_look_wheels : List D → Out := fnM0 1 1 (tl0_look_wheels)
theorem ok_look_wheels (T : Txt K mg) : FnOk Pr w K mg base CX0 3 T.a_look_wheels T.d_look_wheels ["wheels"] (spM K ns mg m_look_wheels) := by
  refine fnOk T.F_look_wheels sc_look_wheels (fun cdv A outer s H E c hc hr => ?_)
  subst hc
  exact (mss_one (ms_if (mt_not (mt_val (mb (me_call (ok_are_wheels T) (hr.mono (by decide)) (by rfl) T.g_are_wheels T.F_are_wheels.kp T.b_are_wheels (ma_cons (me_name 0 (pv 0)) ma_nil))))) (mss_one ms_never) mss_nil))
def tl0_is_any_whole : Rho → Out := (sRet (andV (e1 (isiE .int) (bnm 0)) (notV (e1 (isiE .bool) (bnm 0)))))
def m_is_any_whole : List D → Out := fnM0 1 1 (tl0_is_any_whole)
theorem ok_is_any_whole (T : Txt K mg) : FnOk Pr w K mg base CX0 1 T.a_is_any_whole T.d_is_any_whole ["thing"] (spM K ns mg m_is_any_whole) := by
  refine fnOk T.F_is_any_whole sc_is_any_whole (fun cdv A outer s H E c hc hr => ?_)
  subst hc
  exact (mss_one (ms_ret (me_and (mb (me_isi .int (by rfl) T.z_isinstance bt_isinstance (mb_name 0 (pv 0)) (pe_bltn (by rfl) T.z_int bt_int rfl))) (me_one (me_not (mb (me_isi .bool (by rfl) T.z_isinstance bt_isinstance (mb_name 0 (pv 0)) (pe_bltn (by rfl) T.z_bool bt_bool rfl))))))))
def tl2_readings : Rho → Out := (sRet (e1 tupleD (cons' (lcD (lcE [2] (itE (nm 0)) (bName 2) yes (e2 modD (bnm 1) (bnm 2)))) (cst []))))
def tl1_readings : Rho → Out := (sSeq (sIf (notT (e1 asB (call m_is_any_whole (cons' (nm 1) (cst []))))) sBad sNil) tl2_readings)
def tl0_readings : Rho → Out := (sSeq (sDrop (call m_look_wheels (cons' (nm 0) (cst [])))) tl1_readings)
def m_readings : List D → Out := fnM0 2 3 (tl0_readings)
theorem ok_readings (T : Txt K mg) : FnOk Pr w K mg base CX0 4 T.a_readings T.d_readings ["wheels", "place"] (spM K ns mg m_readings) := by
  refine fnOk T.F_readings sc_readings (fun cdv A outer s H E c hc hr => ?_)
  subst hc
  exact (mss_cons (ms_expr (mb (me_call (ok_look_wheels T) (hr.mono (by decide)) (by rfl) T.g_look_wheels T.F_look_wheels.kp T.b_look_wheels (ma_cons (me_name 0 (pv 0)) ma_nil))))
    (mss_cons (ms_if (mt_not (mt_val (mb (me_call (ok_is_any_whole T) (hr.mono (by decide)) (by rfl) T.g_is_any_whole T.F_is_any_whole.kp T.b_is_any_whole (ma_cons (me_name 1 (pv 1)) ma_nil))))) (mss_one ms_never) mss_nil)
    (mss_one (ms_ret (me_callTy call_tuple_of cad_tuple (by rfl) T.z_tuple bt_tuple (mba_cons (mb (me_lc (own := [("wheel", 2)]) rfl sc_readings.nd (mi_of (me_name 0 (pv 0))) (blkOk_by (N := ["wheels", "place", "wheel"]) (sc := defScope s_readings) (by decide +kernel)) (fun _ _ _ _ _ => (pg_name (i := 2) sc_readings.nd rfl (by first | exact Or.inl rfl | exact Or.inr rfl))) (tg_name 2) (fun _ _ _ _ _ => pts_nil) (fun _ _ _ z => yes_ok z) (fun _ _ _ _ _ => (me_op op_mod opd_mod (mb_name 1 (pv 1)) (mb_name 2 (pv 2)))))) mba_nil))))))
theorem ok__law_cell (T : Txt K mg) : FnOk Pr w K mg base CX0 1 T.a__law_cell T.d__law_cell ["script", "k"] (spM K ns mg (cellF (cell ns.l))) := by
  refine M.FnOk.by (m := fnM0 2 2 (sSeq (sIf (e2 ltD (bnm 1) (lenS ns.l 0)) (sRet (ixS ns.l 0 (bnm 1))) sNil) (sSeq (sIf (nilS ns.l 0) (sRet (cst (.int 0))) sNil) (sRet (e2 addD (e2 mulD (ixS ns.l 0 (e2 modD (bnm 1) (lenS ns.l 0))) (cst (.int 31))) (bnm 1)))))) ?_ (cell_mir ns.l)
  refine fnOk T.F__law_cell sc__law_cell (fun cdv A outer s H E c hc hr => ?_)
  subst hc
  exact (mss_cons (ms_if (mt_cmp op_lt cmd_lt (mb_name 1 (pv 1)) (mb (me_lenS 0 (by rfl) T.z_len bt_len (pv 0))) (nomark _)) (mss_one (ms_ret (me_ixS 0 (pv 0) (mb_name 1 (pv 1)) (fun _ _ => rfl)))) mss_nil)
    (mss_cons (ms_if (mt_nilS hr.units 0 (pv 0)) (mss_one (ms_ret me_int)) mss_nil)
    (mss_one (ms_ret (me_op opr_add opd_add (mb (me_op opr_mul opd_mul (mb (me_ixS 0 (pv 0) (mb (me_op op_mod opd_mod (mb_name 1 (pv 1)) (mb (me_lenS 0 (by rfl) T.z_len bt_len (pv 0))))) (fun _ _ => rfl))) (mb me_int))) (mb_name 1 (pv 1)))))))
theorem ok__law_pick (T : Txt K mg) : FnOk Pr w K mg base CX0 2 T.a__law_pick T.d__law_pick ["script", "k", "many"] (spM K ns mg (pickF (pick ns.l))) := by
  refine M.FnOk.by (m := fnM0 3 4 (pickB (cellF (cell ns.l)))) ?_ (pick_mir ns.l)
  refine fnOk T.F__law_pick sc__law_pick (fun cdv A outer s H E c hc hr => ?_)
  subst hc
  exact (mss_cons (ms_set (i := 3) sc__law_pick.nd rfl (by first | exact Or.inl rfl | exact Or.inr rfl) (mn_d (me_op op_mod opd_mod (mb (me_op opr_mul opd_mul (mb (me_op opr_add opd_add (mb (me_call (ok__law_cell T) (hr.mono (by decide)) (by rfl) T.g__law_cell T.F__law_cell.kp T.b__law_cell (ma_cons (me_name 0 (pv 0)) (ma_cons (me_name 1 (pv 1)) ma_nil)))) (mb (me_op opr_mul opd_mul (mb me_int) (mb (me_op opr_add opd_add (mb_name 1 (pv 1)) (mb me_int))))))) (mb me_int))) (mb me_int))))
    (mss_one (ms_ret (me_op op_mod opd_mod (mb (me_op op_mod opd_mod (mb (me_op opr_add opd_add (mb (me_op opr_mul opd_mul (mb_name 3 (pv 3)) (mb_name 3 (pv 3)))) (mb (me_op op_fdiv opd_fdiv (mb_name 3 (pv 3)) (mb me_int))))) (mb me_int))) (mb_name 2 (pv 2))))))
def ce1_look_readings : Rho → R D := (call m_is_whole (cons' (nm 2) (cons' (cst (.int 0)) (cons' (e2 subD (bnm 3) (cst (.int 1))) (cst [])))))
def tl1_look_readings : Rho → Out := (sIf (notT (e1 asB (e1 allD (cons' (lcD (lcE [2, 3] (zpE (nm 1) (nm 0)) (bTup [2, 3]) yes ce1_look_readings)) (cst []))))) sBad sNil)
def tl0_look_readings : Rho → Out := (sSeq (sIf (orT (notT (e1 asB (e1 (isiTE .list .tuple) (bnm 1)))) (e2 neD (e1 lenD (cons' (bnm 1) (cst []))) (e1 lenD (cons' (bnm 0) (cst []))))) sBad sNil) tl1_look_readings)
def m_look_readings : List D → Out := fnM0 2 4 (tl0_look_readings)
theorem ok_look_readings (T : Txt K mg) : FnOk Pr w K mg base CX0 2 T.a_look_readings T.d_look_readings ["wheels", "given"] (spM K ns mg m_look_readings) := by
  refine fnOk T.F_look_readings sc_look_readings (fun cdv A outer s H E c hc hr => ?_)
  subst hc
  exact (mss_cons (ms_if (mt_w (mw_or (mt_not (mt_val (mb (me_isiT .list .tuple (by rfl) T.z_isinstance bt_isinstance (mb_name 1 (pv 1)) (pe_bltn (by rfl) T.z_list bt_list rfl) (pe_bltn (by rfl) T.z_tuple bt_tuple rfl))))) (mw_or1 (mt_cmp (op_neD hr.units) cmd_ne (mb (me_callB call_len cad_len (by rfl) T.z_len bt_len (mba_cons (mb_name 1 (pv 1)) mba_nil))) (mb (me_callB call_len cad_len (by rfl) T.z_len bt_len (mba_cons (mb_name 0 (pv 0)) mba_nil))) (nomark _))))) (mss_one ms_never) mss_nil)
    (mss_one (ms_if (mt_not (mt_val (mb (me_callB (cr_all rfl) cad_all (by rfl) T.z_all bt_all (mba_cons (mb (me_lc (own := [("one", 2), ("wheel", 3)]) rfl sc_look_readings.nd (mi_zip (by rfl) T.z_zip (me_name 1 (pv 1)) (me_name 0 (pv 0))) (blkOk_by (N := ["wheels", "given", "one", "wheel"]) (sc := defScope s_look_readings) (by decide +kernel)) (fun _ _ _ _ _ => (pg_tup (n := 2) rfl (pgs_cons (pg_name (i := 2) sc_look_readings.nd rfl (by first | exact Or.inl rfl | exact Or.inr rfl)) (pgs_cons (pg_name (i := 3) sc_look_readings.nd rfl (by first | exact Or.inl rfl | exact Or.inr rfl)) pgs_nil)))) (tg_tup (tgs_cons 2 (tgs_cons 3 tgs_nil))) (fun _ _ _ _ _ => pts_nil) (fun _ _ _ z => yes_ok z) (fun _ _ _ _ _ => (me_call (ok_is_whole T) (hr.mono (by decide)) (by rfl) T.g_is_whole T.F_is_whole.kp T.b_is_whole (ma_cons (me_name 2 (pv 2)) (ma_cons me_int (ma_cons (me_op op_sub opd_sub (mb_name 3 (pv 3)) (mb me_int)) ma_nil))))))) mba_nil))))) (mss_one ms_never) mss_nil)))
def tl0_apart : Rho → Out := (sRet (e1 minD (cons' (e2 modD (e2 subD (bnm 1) (bnm 2)) (bnm 0)) (cons' (e2 modD (e2 subD (bnm 2) (bnm 1)) (bnm 0)) (cst [])))))
def m_apart : List D → Out := fnM0 3 3 (tl0_apart)
theorem ok_apart (T : Txt K mg) : FnOk Pr w K mg base CX0 1 T.a_apart T.d_apart ["wheel", "one", "other"] (spM K ns mg m_apart) := by
  refine fnOk T.F_apart sc_apart (fun cdv A outer s H E c hc hr => ?_)
  subst hc
  exact (mss_one (ms_ret (me_callB (car_min rfl) cad_min (by rfl) T.z_min bt_min (mba_cons (mb (me_op op_mod opd_mod (mb (me_op op_sub opd_sub (mb_name 1 (pv 1)) (mb_name 2 (pv 2)))) (mb_name 0 (pv 0)))) (mba_cons (mb (me_op op_mod opd_mod (mb (me_op op_sub opd_sub (mb_name 2 (pv 2)) (mb_name 1 (pv 1)))) (mb_name 0 (pv 0)))) mba_nil)))))
def ce1_is_near : Rho → R D := (bv (e2 leD (call m_apart (cons' (nm 5) (cons' (e2 modD (bnm 2) (bnm 5)) (cons' (nm 6) (cst []))))) (bnm 3)))
def tl1_is_near : Rho → Out := (sRet (e1 allD (cons' (lcD (lcE [5, 6] (itE (nm 4)) (bTup [5, 6]) yes ce1_is_near)) (cst []))))
def tl0_is_near : Rho → Out := (sSeq (sSet 4 (nD (slE (lzE (nm 0) (nm 1)) (e1 asI (cst (.int 1))) (cst none)))) tl1_is_near)
def m_is_near : List D → Out := fnM0 4 7 (tl0_is_near)
theorem ok_is_near (T : Txt K mg) : FnOk Pr w K mg base CX0 2 T.a_is_near T.d_is_near ["wheels", "given", "place", "slack"] (spM K ns mg m_is_near) := by
  refine fnOk T.F_is_near sc_is_near (fun cdv A outer s H E c hc hr => ?_)
  subst hc
  exact (mss_cons (ms_set (i := 4) sc_is_near.nd rfl (by first | exact Or.inl rfl | exact Or.inr rfl) (mn_d (me_slice (mb (me_listZip rfl (by rfl) T.z_list (by rfl) T.z_zip (me_name 0 (pv 0)) (me_name 1 (pv 1)))) (mo_some (mb me_int)) mo_none)))
    (mss_one (ms_ret (me_callB (cr_all rfl) cad_all (by rfl) T.z_all bt_all (mba_cons (mb (me_lc (own := [("wheel", 5), ("one", 6)]) rfl sc_is_near.nd (mi_of (me_name 4 (pv 4))) (blkOk_by (N := ["wheels", "given", "place", "slack", "some", "wheel", "one"]) (sc := defScope s_is_near) (by decide +kernel)) (fun _ _ _ _ _ => (pg_tup (n := 2) rfl (pgs_cons (pg_name (i := 5) sc_is_near.nd rfl (by first | exact Or.inl rfl | exact Or.inr rfl)) (pgs_cons (pg_name (i := 6) sc_is_near.nd rfl (by first | exact Or.inl rfl | exact Or.inr rfl)) pgs_nil)))) (tg_tup (tgs_cons 5 (tgs_cons 6 tgs_nil))) (fun _ _ _ _ _ => pts_nil) (fun _ _ _ z => yes_ok z) (fun _ _ _ _ _ => (me_cmp op_le cmd_le (mb (me_call (ok_apart T) (hr.mono (by decide)) (by rfl) T.g_apart T.F_apart.kp T.b_apart (ma_cons (me_name 5 (pv 5)) (ma_cons (me_op op_mod opd_mod (mb_name 2 (pv 2)) (mb_name 5 (pv 5))) (ma_cons (me_name 6 (pv 6)) ma_nil))))) (mb_name 3 (pv 3)) (nomark _))))) mba_nil)))))
def lb1_size_of : Rho → Out := (sSeq (sPar 3 4 (nD (nm 1)) (nD (nm 2)))
    (sSeq (whL (e2 neD (bnm 4) (cst (.int 0))) (sPar 3 4 (nD (nm 4)) (nD (e2 modD (bnm 3) (bnm 4)))) 20000)
    (sSet 1 (nD (e2 fdivD (e2 mulD (bnm 1) (bnm 2)) (bnm 3))))))
def tl2_size_of : Rho → Out := (sRet (nm 1))
def tl1_size_of : Rho → Out := (sSeq (sFor (itE (nm 0)) (bName 2) lb1_size_of) tl2_size_of)
def tl0_size_of : Rho → Out := (sSeq (sSet 1 (nD (cst (.int 1)))) tl1_size_of)
def m_size_of : List D → Out := fnM0 1 5 (tl0_size_of)
theorem ok_size_of (T : Txt K mg) : FnOk Pr w K mg base CX0 1 T.a_size_of T.d_size_of ["wheels"] (spM K ns mg m_size_of) := by
  refine fnOk T.F_size_of sc_size_of (fun cdv A outer s H E c hc hr => ?_)
  subst hc
  exact (mss_cons (ms_set (i := 1) sc_size_of.nd rfl (by first | exact Or.inl rfl | exact Or.inr rfl) (mn_d me_int))
    (mss_cons (ms_for (vs := [2]) PassesOwn.never rfl (mi_of (me_name 0 (pv 0))) (pg_name (i := 2) sc_size_of.nd rfl (by first | exact Or.inl rfl | exact Or.inr rfl)) (tg_name 2) (mss_cons (ms_par (i := 3) (j := 4) rfl sc_size_of.nd rfl rfl (by decide) rfl rfl (mn_d (me_name 1 (pv 1))) (mn_d (me_name 2 (pv 2))) (by rfl))
    (mss_cons (ms_while 20000 PassesOwn.never (mt_cmp (op_neD hr.units) cmd_ne (mb_name 4 (pv 4)) (mb me_int) (nomark _)) (mss_one (ms_par (i := 3) (j := 4) rfl sc_size_of.nd rfl rfl (by decide) rfl rfl (mn_d (me_name 4 (pv 4))) (mn_d (me_op op_mod opd_mod (mb_name 3 (pv 3)) (mb_name 4 (pv 4)))) (by rfl))))
    (mss_one (ms_set (i := 1) sc_size_of.nd rfl (by first | exact Or.inl rfl | exact Or.inr rfl) (mn_d (me_op op_fdiv opd_fdiv (mb (me_op opr_mul opd_mul (mb_name 1 (pv 1)) (mb_name 2 (pv 2)))) (mb_name 3 (pv 3)))))))))
    (mss_one (ms_ret (me_name 1 (pv 1))))))
def ct1_near : Rho → R Bool := (e1 asB (call m_is_near (cons' (nm 0) (cons' (nm 1) (cons' (nm 3) (cons' (nm 2) (cst [])))))))
def tl3_near : Rho → Out := (sRetN (nO (lcE [3] (rg3 (e2 ixD (bnm 1) (cst (.int 0))) (call m_size_of (cons' (nm 0) (cst []))) (e2 ixD (bnm 0) (cst (.int 0)))) (bName 3) ct1_near (nm 3))))
def tl2_near : Rho → Out := (sSeq (sIf (notT (e1 asB (call m_is_whole (cons' (nm 2) (cons' (cst (.int 0)) (cons' (cst (.int 9)) (cst []))))))) sBad sNil) tl3_near)
def tl1_near : Rho → Out := (sSeq (sDrop (call m_look_readings (cons' (nm 0) (cons' (nm 1) (cst []))))) tl2_near)
def tl0_near : Rho → Out := (sSeq (sDrop (call m_look_wheels (cons' (nm 0) (cst [])))) tl1_near)
def m_near : List D → Out := fnM0 3 4 (tl0_near)
theorem ok_near (T : Txt K mg) : FnOk Pr w K mg base CX0 4 T.a_near T.d_near ["wheels", "given", "slack"] (spM K ns mg m_near) := by
  refine fnOk T.F_near sc_near (fun cdv A outer s H E c hc hr => ?_)
  subst hc
  exact (mss_cons (ms_expr (mb (me_call (ok_look_wheels T) (hr.mono (by decide)) (by rfl) T.g_look_wheels T.F_look_wheels.kp T.b_look_wheels (ma_cons (me_name 0 (pv 0)) ma_nil))))
    (mss_cons (ms_expr (mb (me_call (ok_look_readings T) (hr.mono (by decide)) (by rfl) T.g_look_readings T.F_look_readings.kp T.b_look_readings (ma_cons (me_name 0 (pv 0)) (ma_cons (me_name 1 (pv 1)) ma_nil)))))
    (mss_cons (ms_if (mt_not (mt_val (mb (me_call (ok_is_whole T) (hr.mono (by decide)) (by rfl) T.g_is_whole T.F_is_whole.kp T.b_is_whole (ma_cons (me_name 2 (pv 2)) (ma_cons me_int (ma_cons (me_globI (by rfl) T.c_MOST_SLACK) ma_nil))))))) (mss_one ms_never) mss_nil)
    (mss_one (ms_retN (mn_lc (own := [("place", 3)]) rfl sc_near.nd (mi_range3 (by rfl) T.z_range (mb (me_ix ix_seq opd_ix (mb_name 1 (pv 1)) (mb me_int) (fun _ _ => rfl))) (mb (me_call (ok_size_of T) (hr.mono (by decide)) (by rfl) T.g_size_of T.F_size_of.kp T.b_size_of (ma_cons (me_name 0 (pv 0)) ma_nil))) (mb (me_ix ix_seq opd_ix (mb_name 0 (pv 0)) (mb me_int) (fun _ _ => rfl)))) (blkOk_by (N := ["wheels", "given", "slack", "place"]) (sc := defScope s_near) (by decide +kernel)) (fun _ _ _ _ _ => (pg_name (i := 3) sc_near.nd rfl (by first | exact Or.inl rfl | exact Or.inr rfl))) (tg_name 3) (fun _ _ _ _ _ => (pts_one (mt_val (mb (me_call (ok_is_near T) (hr.mono (by decide)) (by rfl) T.g_is_near T.F_is_near.kp T.b_is_near (ma_cons (me_name 0 (pv 0)) (ma_cons (me_name 1 (pv 1)) (ma_cons (me_name 3 (pv 3)) (ma_cons (me_name 2 (pv 2)) ma_nil))))))))) (fun _ _ _ z => z) (fun _ _ _ _ _ => (me_name 3 (pv 3)))))))))
def tl1_whole : Rho → Out := (sRetN (ncall m_size_of (cons' (nm 0) (cst []))))
def tl0_whole : Rho → Out := (sSeq (sDrop (call m_look_wheels (cons' (nm 0) (cst [])))) tl1_whole)
def m_whole : List D → Out := fnM0 1 1 (tl0_whole)
theorem ok_whole (T : Txt K mg) : FnOk Pr w K mg base CX0 4 T.a_whole T.d_whole ["wheels"] (spM K ns mg m_whole) := by
  refine fnOk T.F_whole sc_whole (fun cdv A outer s H E c hc hr => ?_)
  subst hc
  exact (mss_cons (ms_expr (mb (me_call (ok_look_wheels T) (hr.mono (by decide)) (by rfl) T.g_look_wheels T.F_look_wheels.kp T.b_look_wheels (ma_cons (me_name 0 (pv 0)) ma_nil))))
    (mss_one (ms_retN (mn_call (ok_size_of T) (hr.mono (by decide)) (by rfl) T.g_size_of T.F_size_of.kp T.b_size_of (ma_cons (me_name 0 (pv 0)) ma_nil)))))
def ct1_place_by : Rho → R Bool := (e2 eqD (e2 modD (e2 addD (bnm 2) (e2 mulD (bnm 3) (bnm 7))) (bnm 4)) (bnm 5))
def ce2_place_by : Rho → R D := (e2 addD (bnm 2) (e2 mulD (bnm 3) (bnm 7)))
def lb3_place_by : Rho → Out := (sSeq (sSet 6 (nO (lcE [7] (rg1 (bnm 4)) (bName 7) ct1_place_by ce2_place_by)))
    (sSeq (sIf (e2 eqD (bnm 6) (lstE (cst []))) (sRet (cst .none)) sNil)
    (sSeq (sSet 2 (nD (e2 ixD (bnm 6) (cst (.int 0)))))
    (sSet 3 (nD (call m_size_of (cons' (tupE (cons' (nm 3) (cons' (nm 4) (cst [])))) (cst []))))))))
def tl4_place_by : Rho → Out := (sRet (nm 2))
def tl3_place_by : Rho → Out := (sSeq (sFor (zpE (nm 0) (nm 1)) (bTup [4, 5]) lb3_place_by) tl4_place_by)
def tl2_place_by : Rho → Out := (sSeq (sUnp (bTup [2, 3]) (tupE (cons' (cst (.int 0)) (cons' (cst (.int 1)) (cst []))))) tl3_place_by)
def tl1_place_by : Rho → Out := (sSeq (sDrop (call m_look_readings (cons' (nm 0) (cons' (nm 1) (cst []))))) tl2_place_by)
def tl0_place_by : Rho → Out := (sSeq (sDrop (call m_look_wheels (cons' (nm 0) (cst [])))) tl1_place_by)
def m_place_by : List D → Out := fnM0 2 8 (tl0_place_by)
theorem ok_place_by (T : Txt K mg) : FnOk Pr w K mg base CX0 4 T.a_place_by T.d_place_by ["wheels", "given"] (spM K ns mg m_place_by) := by
  refine fnOk T.F_place_by sc_place_by (fun cdv A outer s H E c hc hr => ?_)
  subst hc
  exact (mss_cons (ms_expr (mb (me_call (ok_look_wheels T) (hr.mono (by decide)) (by rfl) T.g_look_wheels T.F_look_wheels.kp T.b_look_wheels (ma_cons (me_name 0 (pv 0)) ma_nil))))
    (mss_cons (ms_expr (mb (me_call (ok_look_readings T) (hr.mono (by decide)) (by rfl) T.g_look_readings T.F_look_readings.kp T.b_look_readings (ma_cons (me_name 0 (pv 0)) (ma_cons (me_name 1 (pv 1)) ma_nil)))))
    (mss_cons (ms_unp (vs := [2, 3]) (me_tup (ma_cons me_int (ma_cons me_int ma_nil))) (pg_tup (n := 2) rfl (pgs_cons (pg_name (i := 2) sc_place_by.nd rfl (by first | exact Or.inl rfl | exact Or.inr rfl)) (pgs_cons (pg_name (i := 3) sc_place_by.nd rfl (by first | exact Or.inl rfl | exact Or.inr rfl)) pgs_nil))) (tg_tup (tgs_cons 2 (tgs_cons 3 tgs_nil))))
    (mss_cons (ms_for (vs := [4, 5]) PassesOwn.never rfl (mi_zip (by rfl) T.z_zip (me_name 0 (pv 0)) (me_name 1 (pv 1))) (pg_tup (n := 2) rfl (pgs_cons (pg_name (i := 4) sc_place_by.nd rfl (by first | exact Or.inl rfl | exact Or.inr rfl)) (pgs_cons (pg_name (i := 5) sc_place_by.nd rfl (by first | exact Or.inl rfl | exact Or.inr rfl)) pgs_nil))) (tg_tup (tgs_cons 4 (tgs_cons 5 tgs_nil))) (mss_cons (ms_setLc (i := 6) (y := "some") (own := [("again", 7)]) rfl sc_place_by.nd rfl rfl (sw_true rfl rfl rfl (by decide +kernel)) (mi_range1 (by rfl) T.z_range (mb_name 4 (pv 4))) (blkOk_by (N := ["wheels", "given", "place", "size", "wheel", "one", "some", "again"]) (sc := defScope s_place_by) (by decide +kernel)) (fun _ _ _ _ _ => (pg_name (i := 7) sc_place_by.nd rfl (by first | exact Or.inl rfl | exact Or.inr rfl))) (tg_name 7) (fun _ _ _ _ _ => (pts_one (mt_cmp (op_eqD hr.units) cmd_eq (mb (me_op op_mod opd_mod (mb (me_op opr_add opd_add (mb_name 2 (pv 2)) (mb (me_op opr_mul opd_mul (mb_name 3 (pv 3)) (mb_name 7 (pv 7)))))) (mb_name 4 (pv 4)))) (mb_name 5 (pv 5)) (nomark _)))) (fun _ _ _ z => z) (fun _ _ _ _ _ => (me_op opr_add opd_add (mb_name 2 (pv 2)) (mb (me_op opr_mul opd_mul (mb_name 3 (pv 3)) (mb_name 7 (pv 7)))))))
    (mss_cons (ms_if (mt_cmp (op_eqD hr.units) cmd_eq (mb_name 6 (pv 6)) (mb (me_lst ma_nil)) (nomark _)) (mss_one (ms_ret me_non)) mss_nil)
    (mss_cons (ms_set (i := 2) sc_place_by.nd rfl (by first | exact Or.inl rfl | exact Or.inr rfl) (mn_d (me_ix ix_seq opd_ix (mb_name 6 (pv 6)) (mb me_int) (fun _ _ => rfl))))
    (mss_one (ms_set (i := 3) sc_place_by.nd rfl (by first | exact Or.inl rfl | exact Or.inr rfl) (mn_d (me_call (ok_size_of T) (hr.mono (by decide)) (by rfl) T.g_size_of T.F_size_of.kp T.b_size_of (ma_cons (me_tup (ma_cons (me_name 3 (pv 3)) (ma_cons (me_name 4 (pv 4)) ma_nil))) ma_nil)))))))))
    (mss_one (ms_ret (me_name 2 (pv 2))))))))
def ce1_most_slack : Rho → R D := (call m_apart (cons' (nm 4) (cons' (e2 modD (bnm 2) (bnm 4)) (cons' (cst (.int 0)) (cst [])))))
def lb2_most_slack : Rho → Out := (sSeq (sSet 3 (nD (e1 maxD (cons' (lcD (lcE [4] (itE (slE (bnm 0) (e1 asI (cst (.int 1))) (cst none))) (bName 4) yes ce1_most_slack)) (cst [])))))
    (sSet 1 (nD (e1 minD (cons' (bnm 1) (cons' (e2 fdivD (e2 subD (bnm 3) (cst (.int 1))) (cst (.int 2))) (cst [])))))))
def tl3_most_slack : Rho → Out := (sRet (nm 1))
def tl2_most_slack : Rho → Out := (sSeq (sFor (rg3 (e2 ixD (bnm 0) (cst (.int 0))) (call m_size_of (cons' (nm 0) (cst []))) (e2 ixD (bnm 0) (cst (.int 0)))) (bName 2) lb2_most_slack) tl3_most_slack)
def tl1_most_slack : Rho → Out := (sSeq (sSet 1 (nD (cst (.int 9)))) tl2_most_slack)
def tl0_most_slack : Rho → Out := (sSeq (sDrop (call m_look_wheels (cons' (nm 0) (cst [])))) tl1_most_slack)
def m_most_slack : List D → Out := fnM0 1 5 (tl0_most_slack)
theorem ok_most_slack (T : Txt K mg) : FnOk Pr w K mg base CX0 4 T.a_most_slack T.d_most_slack ["wheels"] (spM K ns mg m_most_slack) := by
  refine fnOk T.F_most_slack sc_most_slack (fun cdv A outer s H E c hc hr => ?_)
  subst hc
  exact (mss_cons (ms_expr (mb (me_call (ok_look_wheels T) (hr.mono (by decide)) (by rfl) T.g_look_wheels T.F_look_wheels.kp T.b_look_wheels (ma_cons (me_name 0 (pv 0)) ma_nil))))
    (mss_cons (ms_set (i := 1) sc_most_slack.nd rfl (by first | exact Or.inl rfl | exact Or.inr rfl) (mn_d (me_globI (by rfl) T.c_MOST_SLACK)))
    (mss_cons (ms_for (vs := [2]) PassesOwn.never rfl (mi_range3 (by rfl) T.z_range (mb (me_ix ix_seq opd_ix (mb_name 0 (pv 0)) (mb me_int) (fun _ _ => rfl))) (mb (me_call (ok_size_of T) (hr.mono (by decide)) (by rfl) T.g_size_of T.F_size_of.kp T.b_size_of (ma_cons (me_name 0 (pv 0)) ma_nil))) (mb (me_ix ix_seq opd_ix (mb_name 0 (pv 0)) (mb me_int) (fun _ _ => rfl)))) (pg_name (i := 2) sc_most_slack.nd rfl (by first | exact Or.inl rfl | exact Or.inr rfl)) (tg_name 2) (mss_cons (ms_set (i := 3) sc_most_slack.nd rfl (by first | exact Or.inl rfl | exact Or.inr rfl) (mn_d (me_callB (car_max rfl) cad_max (by rfl) T.z_max bt_max (mba_cons (mb (me_lc (own := [("wheel", 4)]) rfl sc_most_slack.nd (mi_of (me_slice (mb_name 0 (pv 0)) (mo_some (mb me_int)) mo_none)) (blkOk_by (N := ["wheels", "made", "place", "far", "wheel"]) (sc := defScope s_most_slack) (by decide +kernel)) (fun _ _ _ _ _ => (pg_name (i := 4) sc_most_slack.nd rfl (by first | exact Or.inl rfl | exact Or.inr rfl))) (tg_name 4) (fun _ _ _ _ _ => pts_nil) (fun _ _ _ z => yes_ok z) (fun _ _ _ _ _ => (me_call (ok_apart T) (hr.mono (by decide)) (by rfl) T.g_apart T.F_apart.kp T.b_apart (ma_cons (me_name 4 (pv 4)) (ma_cons (me_op op_mod opd_mod (mb_name 2 (pv 2)) (mb_name 4 (pv 4))) (ma_cons me_int ma_nil))))))) mba_nil))))
    (mss_one (ms_set (i := 1) sc_most_slack.nd rfl (by first | exact Or.inl rfl | exact Or.inr rfl) (mn_d (me_callB (car_min rfl) cad_min (by rfl) T.z_min bt_min (mba_cons (mb_name 1 (pv 1)) (mba_cons (mb (me_op op_fdiv opd_fdiv (mb (me_op op_sub opd_sub (mb_name 3 (pv 3)) (mb me_int))) (mb me_int))) mba_nil))))))))
    (mss_one (ms_ret (me_name 1 (pv 1)))))))
def ce1_law (P : Int → Int → Int) : Rho → R D := (e2 addD (cst (.int 2)) (call (pickF P) (cons' (nm 0) (cons' (e2 addD (cst (.int 1)) (bnm 6)) (cons' (cst (.int 9)) (cst []))))))
def ct2_law : Rho → R Bool := (e2 neD (e2 modD (bnm 9) (bnm 13)) (cst (.int 0)))
def lb3_law (P : Int → Int → Int) : Rho → Out := (sApp 5 (e2 modD (e2 subD (e2 addD (e2 ixD (bnm 2) (bnm 6)) (call (pickF P) (cons' (nm 0) (cons' (e2 addD (cst (.int 10)) (bnm 6)) (cons' (e2 addD (e2 mulD (cst (.int 2)) (bnm 4)) (cst (.int 1))) (cst [])))))) (bnm 4)) (e2 ixD (bnm 1) (bnm 6))))
def lb4_law : Rho → Out := (sApp 12 (e1 minD (cons' (e2 modD (e2 subD (e2 ixD (bnm 11) (bnm 6)) (e2 ixD (bnm 5) (bnm 6))) (e2 ixD (bnm 1) (bnm 6))) (cons' (e2 modD (e2 subD (e2 ixD (bnm 5) (bnm 6)) (e2 ixD (bnm 11) (bnm 6))) (e2 ixD (bnm 1) (bnm 6))) (cst [])))))
def lb5_law : Rho → Out := (sSeq (sSet 11 (nD (call m_readings (cons' (nm 1) (cons' (nm 8) (cst []))))))
    (sSeq (sSet 12 (nLst (cst [])))
    (sSeq (sFor (rg1 (e1 lenD (cons' (bnm 1) (cst [])))) (bName 6) lb4_law)
    (sIf (orT (e2 neD (e2 ixD (bnm 12) (cst (.int 0))) (cst (.int 0))) (e2 gtD (e1 maxD (cons' (bnm 12) (cst []))) (bnm 4))) (sRet (cst (.bool false))) sNil))))
def tl13_law : Rho → Out := (sRet (andV (bv (e2 eqD (bnm 7) (e1 sortSetD (bnm 7)))) (bv (e2 eqD (call m_near (cons' (nm 1) (cons' (nm 2) (cons' (cst (.int 0)) (cst []))))) (lstE (cons' (e2 modD (bnm 10) (bnm 9)) (cst [])))))))
def tl12_law : Rho → Out := (sSeq (sFor (itE (nm 7)) (bName 8) lb5_law) tl13_law)
def tl11_law : Rho → Out := (sSeq (sIf (orT (e2 ninD (e2 modD (bnm 10) (bnm 9)) (bnm 7)) (andT (e2 leD (bnm 4) (call m_most_slack (cons' (nm 1) (cst [])))) (e2 neD (bnm 7) (lstE (cons' (e2 modD (bnm 10) (bnm 9)) (cst [])))))) (sRet (cst (.bool false))) sNil) tl12_law)
def tl10_law : Rho → Out := (sSeq (sSet 7 (nD (call m_near (cons' (nm 1) (cons' (e1 tupleD (cons' (bnm 5) (cst []))) (cons' (nm 4) (cst []))))))) tl11_law)
def tl9_law (P : Int → Int → Int) : Rho → Out := (sSeq (sFor (rg2 (cst (.int 1)) (e1 lenD (cons' (bnm 1) (cst [])))) (bName 6) (lb3_law P)) tl10_law)
def tl8_law (P : Int → Int → Int) : Rho → Out := (sSeq (sSet 5 (nLst (cons' (e2 ixD (bnm 2) (cst (.int 0))) (cst [])))) (tl9_law P))
def tl7_law (P : Int → Int → Int) : Rho → Out := (sSeq (sSet 4 (nD (call (pickF P) (cons' (nm 0) (cons' (cst (.int 7)) (cons' (cst (.int 4)) (cst []))))))) (tl8_law P))
def tl6_law (P : Int → Int → Int) : Rho → Out := (sSeq (sIf (andT (e2 ltD (bnm 3) (bnm 9)) (e2 eqD (call m_readings (cons' (nm 1) (cons' (e2 addD (bnm 10) (bnm 3)) (cst [])))) (bnm 2))) (sRet (cst (.bool false))) sNil) (tl7_law P))
def tl5_law (P : Int → Int → Int) : Rho → Out := (sSeq (sSet 3 (nD (e2 addD (cst (.int 1)) (call (pickF P) (cons' (nm 0) (cons' (cst (.int 6)) (cons' (e1 maxD (cons' (cst (.int 1)) (cons' (e2 subD (bnm 9) (cst (.int 1))) (cst [])))) (cst [])))))))) (tl6_law P))
def tl4_law (P : Int → Int → Int) : Rho → Out := (sSeq (sIf (orT (e2 neD (call m_readings (cons' (nm 1) (cons' (e2 addD (bnm 10) (bnm 9)) (cst [])))) (bnm 2)) (e2 neD (lcD (lcE [13] (itE (nm 1)) (bName 13) ct2_law (nm 13))) (lstE (cst [])))) (sRet (cst (.bool false))) sNil) (tl5_law P))
def tl3_law (P : Int → Int → Int) : Rho → Out := (sSeq (sIf (orT (e2 neD (bnm 2) (e1 tupleD (cons' (lcD (lcE [13] (itE (nm 1)) (bName 13) yes (e2 modD (bnm 10) (bnm 13)))) (cst [])))) (e2 neD (call m_place_by (cons' (nm 1) (cons' (nm 2) (cst [])))) (e2 modD (bnm 10) (bnm 9)))) (sRet (cst (.bool false))) sNil) (tl4_law P))
def tl2_law (P : Int → Int → Int) : Rho → Out := (sSeq (sSet 2 (nD (call m_readings (cons' (nm 1) (cons' (nm 10) (cst [])))))) (tl3_law P))
def tl1_law (P : Int → Int → Int) : Rho → Out := (sSeq (sUnp (bTup [9, 10]) (tupE (cons' (call m_whole (cons' (nm 1) (cst []))) (cons' (e2 subD (call (pickF P) (cons' (nm 0) (cons' (cst (.int 5)) (cons' (cst (.int 2000)) (cst []))))) (cst (.int 1000))) (cst []))))) (tl2_law P))
def tl0_law (P : Int → Int → Int) : Rho → Out := (sSeq (sSet 1 (nD (e1 tupleD (cons' (lcD (lcE [6] (rg1 (e2 addD (cst (.int 1)) (call (pickF P) (cons' (nm 0) (cons' (cst (.int 0)) (cons' (cst (.int 3)) (cst []))))))) (bName 6) yes (ce1_law P))) (cst []))))) (tl1_law P))
def m_law (P : Int → Int → Int) : List D → Out := fnM0 1 14 ((tl0_law P))
theorem ok_law (T : Txt K mg) : FnOk Pr w K mg base CX0 5 T.a_law T.d_law ["script"] (spM K ns mg (m_law (pick ns.l))) := by
  refine fnOk T.F_law sc_law (fun cdv A outer s H E c hc hr => ?_)
  subst hc
  exact (mss_cons (ms_set (i := 1) sc_law.nd rfl (by first | exact Or.inl rfl | exact Or.inr rfl) (mn_d (me_callTy call_tuple_of cad_tuple (by rfl) T.z_tuple bt_tuple (mba_cons (mb (me_lc (own := [("k", 6)]) rfl sc_law.nd (mi_range1 (by rfl) T.z_range (mb (me_op opr_add opd_add (mb me_int) (mb (me_call (ok__law_pick T) (hr.mono (by decide)) (by rfl) T.g__law_pick T.F__law_pick.kp T.b__law_pick (ma_cons (me_name 0 (pv 0)) (ma_cons me_int (ma_cons me_int ma_nil)))))))) (blkOk_by (N := ["script", "wheels", "told", "by", "slack", "slipped", "k", "some", "one", "size", "place", "there", "far", "wheel"]) (sc := defScope s_law) (by decide +kernel)) (fun _ _ _ _ _ => (pg_name (i := 6) sc_law.nd rfl (by first | exact Or.inl rfl | exact Or.inr rfl))) (tg_name 6) (fun _ _ _ _ _ => pts_nil) (fun _ _ _ z => yes_ok z) (fun _ _ _ _ _ => (me_op opr_add opd_add (mb me_int) (mb (me_call (ok__law_pick T) (hr.mono (by decide)) (by rfl) T.g__law_pick T.F__law_pick.kp T.b__law_pick (ma_cons (me_name 0 (pv 0)) (ma_cons (me_op opr_add opd_add (mb me_int) (mb_name 6 (pv 6))) (ma_cons me_int ma_nil))))))))) mba_nil))))
    (mss_cons (ms_unp (vs := [9, 10]) (me_tup (ma_cons (me_call (ok_whole T) (hr.mono (by decide)) (by rfl) T.g_whole T.F_whole.kp T.b_whole (ma_cons (me_name 1 (pv 1)) ma_nil)) (ma_cons (me_op op_sub opd_sub (mb (me_call (ok__law_pick T) (hr.mono (by decide)) (by rfl) T.g__law_pick T.F__law_pick.kp T.b__law_pick (ma_cons (me_name 0 (pv 0)) (ma_cons me_int (ma_cons me_int ma_nil))))) (mb me_int)) ma_nil))) (pg_tup (n := 2) rfl (pgs_cons (pg_name (i := 9) sc_law.nd rfl (by first | exact Or.inl rfl | exact Or.inr rfl)) (pgs_cons (pg_name (i := 10) sc_law.nd rfl (by first | exact Or.inl rfl | exact Or.inr rfl)) pgs_nil))) (tg_tup (tgs_cons 9 (tgs_cons 10 tgs_nil))))
    (mss_cons (ms_set (i := 2) sc_law.nd rfl (by first | exact Or.inl rfl | exact Or.inr rfl) (mn_d (me_call (ok_readings T) (hr.mono (by decide)) (by rfl) T.g_readings T.F_readings.kp T.b_readings (ma_cons (me_name 1 (pv 1)) (ma_cons (me_name 10 (pv 10)) ma_nil)))))
    (mss_cons (ms_if (mt_w (mw_or (mt_cmp (op_neD hr.units) cmd_ne (mb_name 2 (pv 2)) (mb (me_callTy call_tuple_of cad_tuple (by rfl) T.z_tuple bt_tuple (mba_cons (mb (me_lc (own := [("wheel", 13)]) rfl sc_law.nd (mi_of (me_name 1 (pv 1))) (blkOk_by (N := ["script", "wheels", "told", "by", "slack", "slipped", "k", "some", "one", "size", "place", "there", "far", "wheel"]) (sc := defScope s_law) (by decide +kernel)) (fun _ _ _ _ _ => (pg_name (i := 13) sc_law.nd rfl (by first | exact Or.inl rfl | exact Or.inr rfl))) (tg_name 13) (fun _ _ _ _ _ => pts_nil) (fun _ _ _ z => yes_ok z) (fun _ _ _ _ _ => (me_op op_mod opd_mod (mb_name 10 (pv 10)) (mb_name 13 (pv 13)))))) mba_nil))) (nomark _)) (mw_or1 (mt_cmp (op_neD hr.units) cmd_ne (mb (me_call (ok_place_by T) (hr.mono (by decide)) (by rfl) T.g_place_by T.F_place_by.kp T.b_place_by (ma_cons (me_name 1 (pv 1)) (ma_cons (me_name 2 (pv 2)) ma_nil)))) (mb (me_op op_mod opd_mod (mb_name 10 (pv 10)) (mb_name 9 (pv 9)))) (nomark _))))) (mss_one (ms_ret me_bl)) mss_nil)
    (mss_cons (ms_if (mt_w (mw_or (mt_cmp (op_neD hr.units) cmd_ne (mb (me_call (ok_readings T) (hr.mono (by decide)) (by rfl) T.g_readings T.F_readings.kp T.b_readings (ma_cons (me_name 1 (pv 1)) (ma_cons (me_op opr_add opd_add (mb_name 10 (pv 10)) (mb_name 9 (pv 9))) ma_nil)))) (mb_name 2 (pv 2)) (nomark _)) (mw_or1 (mt_cmp (op_neD hr.units) cmd_ne (mb (me_lc (own := [("wheel", 13)]) rfl sc_law.nd (mi_of (me_name 1 (pv 1))) (blkOk_by (N := ["script", "wheels", "told", "by", "slack", "slipped", "k", "some", "one", "size", "place", "there", "far", "wheel"]) (sc := defScope s_law) (by decide +kernel)) (fun _ _ _ _ _ => (pg_name (i := 13) sc_law.nd rfl (by first | exact Or.inl rfl | exact Or.inr rfl))) (tg_name 13) (fun _ _ _ _ _ => (pts_one (mt_cmp (op_neD hr.units) cmd_ne (mb (me_op op_mod opd_mod (mb_name 9 (pv 9)) (mb_name 13 (pv 13)))) (mb me_int) (nomark _)))) (fun _ _ _ z => z) (fun _ _ _ _ _ => (me_name 13 (pv 13))))) (mb (me_lst ma_nil)) (nomark _))))) (mss_one (ms_ret me_bl)) mss_nil)
    (mss_cons (ms_set (i := 3) sc_law.nd rfl (by first | exact Or.inl rfl | exact Or.inr rfl) (mn_d (me_op opr_add opd_add (mb me_int) (mb (me_call (ok__law_pick T) (hr.mono (by decide)) (by rfl) T.g__law_pick T.F__law_pick.kp T.b__law_pick (ma_cons (me_name 0 (pv 0)) (ma_cons me_int (ma_cons (me_callB (car_max rfl) cad_max (by rfl) T.z_max bt_max (mba_cons (mb me_int) (mba_cons (mb (me_op op_sub opd_sub (mb_name 9 (pv 9)) (mb me_int))) mba_nil))) ma_nil))))))))
    (mss_cons (ms_if (mt_w (mw_and (mt_cmp op_lt cmd_lt (mb_name 3 (pv 3)) (mb_name 9 (pv 9)) (nomark _)) (mw_and1 (mt_cmp (op_eqD hr.units) cmd_eq (mb (me_call (ok_readings T) (hr.mono (by decide)) (by rfl) T.g_readings T.F_readings.kp T.b_readings (ma_cons (me_name 1 (pv 1)) (ma_cons (me_op opr_add opd_add (mb_name 10 (pv 10)) (mb_name 3 (pv 3))) ma_nil)))) (mb_name 2 (pv 2)) (nomark _))))) (mss_one (ms_ret me_bl)) mss_nil)
    (mss_cons (ms_set (i := 4) sc_law.nd rfl (by first | exact Or.inl rfl | exact Or.inr rfl) (mn_d (me_call (ok__law_pick T) (hr.mono (by decide)) (by rfl) T.g__law_pick T.F__law_pick.kp T.b__law_pick (ma_cons (me_name 0 (pv 0)) (ma_cons me_int (ma_cons me_int ma_nil))))))
    (mss_cons (ms_set (i := 5) sc_law.nd rfl (by first | exact Or.inl rfl | exact Or.inr rfl) (mn_lst (ma_cons (me_ix ix_seq opd_ix (mb_name 2 (pv 2)) (mb me_int) (fun _ _ => rfl)) ma_nil)))
    (mss_cons (ms_for (vs := [6]) PassesOwn.never rfl (mi_range2 (by rfl) T.z_range (mb me_int) (mb (me_callB call_len cad_len (by rfl) T.z_len bt_len (mba_cons (mb_name 1 (pv 1)) mba_nil)))) (pg_name (i := 6) sc_law.nd rfl (by first | exact Or.inl rfl | exact Or.inr rfl)) (tg_name 6) (mss_one (ms_app (pe_bm PySem.F.plainAttrs_list PySem.F.slot_list_append PySem.F.type_list_append mt_append (pv 5) (pa_cons (me_op op_mod opd_mod (mb (me_op op_sub opd_sub (mb (me_op opr_add opd_add (mb (me_ix ix_seq opd_ix (mb_name 2 (pv 2)) (mb_name 6 (pv 6)) (fun _ _ => rfl))) (mb (me_call (ok__law_pick T) (hr.mono (by decide)) (by rfl) T.g__law_pick T.F__law_pick.kp T.b__law_pick (ma_cons (me_name 0 (pv 0)) (ma_cons (me_op opr_add opd_add (mb me_int) (mb_name 6 (pv 6))) (ma_cons (me_op opr_add opd_add (mb (me_op opr_mul opd_mul (mb me_int) (mb_name 4 (pv 4)))) (mb me_int)) ma_nil))))))) (mb_name 4 (pv 4)))) (mb (me_ix ix_seq opd_ix (mb_name 1 (pv 1)) (mb_name 6 (pv 6)) (fun _ _ => rfl)))) pa_nil)))))
    (mss_cons (ms_set (i := 7) sc_law.nd rfl (by first | exact Or.inl rfl | exact Or.inr rfl) (mn_d (me_call (ok_near T) (hr.mono (by decide)) (by rfl) T.g_near T.F_near.kp T.b_near (ma_cons (me_name 1 (pv 1)) (ma_cons (me_callTy call_tuple_of cad_tuple (by rfl) T.z_tuple bt_tuple (mba_cons (mb_name 5 (pv 5)) mba_nil)) (ma_cons (me_name 4 (pv 4)) ma_nil))))))
    (mss_cons (ms_if (mt_w (mw_or (mt_cmp (opr_nin (units65 hr)) cmd_nin (mb (me_op op_mod opd_mod (mb_name 10 (pv 10)) (mb_name 9 (pv 9)))) (mb_name 7 (pv 7)) (by rfl)) (mw_or1 (mt_w (mw_and (mt_cmp op_le cmd_le (mb_name 4 (pv 4)) (mb (me_call (ok_most_slack T) (hr.mono (by decide)) (by rfl) T.g_most_slack T.F_most_slack.kp T.b_most_slack (ma_cons (me_name 1 (pv 1)) ma_nil))) (nomark _)) (mw_and1 (mt_cmp (op_neD hr.units) cmd_ne (mb_name 7 (pv 7)) (mb (me_lst (ma_cons (me_op op_mod opd_mod (mb_name 10 (pv 10)) (mb_name 9 (pv 9))) ma_nil))) (nomark _)))))))) (mss_one (ms_ret me_bl)) mss_nil)
    (mss_cons (ms_for (vs := [8]) PassesOwn.never rfl (mi_of (me_name 7 (pv 7))) (pg_name (i := 8) sc_law.nd rfl (by first | exact Or.inl rfl | exact Or.inr rfl)) (tg_name 8) (mss_cons (ms_set (i := 11) sc_law.nd rfl (by first | exact Or.inl rfl | exact Or.inr rfl) (mn_d (me_call (ok_readings T) (hr.mono (by decide)) (by rfl) T.g_readings T.F_readings.kp T.b_readings (ma_cons (me_name 1 (pv 1)) (ma_cons (me_name 8 (pv 8)) ma_nil)))))
    (mss_cons (ms_set (i := 12) sc_law.nd rfl (by first | exact Or.inl rfl | exact Or.inr rfl) (mn_lst ma_nil))
    (mss_cons (ms_for (vs := [6]) PassesOwn.never rfl (mi_range1 (by rfl) T.z_range (mb (me_callB call_len cad_len (by rfl) T.z_len bt_len (mba_cons (mb_name 1 (pv 1)) mba_nil)))) (pg_name (i := 6) sc_law.nd rfl (by first | exact Or.inl rfl | exact Or.inr rfl)) (tg_name 6) (mss_one (ms_app (pe_bm PySem.F.plainAttrs_list PySem.F.slot_list_append PySem.F.type_list_append mt_append (pv 12) (pa_cons (me_callB (car_min rfl) cad_min (by rfl) T.z_min bt_min (mba_cons (mb (me_op op_mod opd_mod (mb (me_op op_sub opd_sub (mb (me_ix ix_seq opd_ix (mb_name 11 (pv 11)) (mb_name 6 (pv 6)) (fun _ _ => rfl))) (mb (me_ix ix_seq opd_ix (mb_name 5 (pv 5)) (mb_name 6 (pv 6)) (fun _ _ => rfl))))) (mb (me_ix ix_seq opd_ix (mb_name 1 (pv 1)) (mb_name 6 (pv 6)) (fun _ _ => rfl))))) (mba_cons (mb (me_op op_mod opd_mod (mb (me_op op_sub opd_sub (mb (me_ix ix_seq opd_ix (mb_name 5 (pv 5)) (mb_name 6 (pv 6)) (fun _ _ => rfl))) (mb (me_ix ix_seq opd_ix (mb_name 11 (pv 11)) (mb_name 6 (pv 6)) (fun _ _ => rfl))))) (mb (me_ix ix_seq opd_ix (mb_name 1 (pv 1)) (mb_name 6 (pv 6)) (fun _ _ => rfl))))) mba_nil))) pa_nil)))))
    (mss_one (ms_if (mt_w (mw_or (mt_cmp (op_neD hr.units) cmd_ne (mb (me_ix ix_seq opd_ix (mb_name 12 (pv 12)) (mb me_int) (fun _ _ => rfl))) (mb me_int) (nomark _)) (mw_or1 (mt_cmp op_gt cmd_gt (mb (me_callB (car_max rfl) cad_max (by rfl) T.z_max bt_max (mba_cons (mb_name 12 (pv 12)) mba_nil))) (mb_name 4 (pv 4)) (nomark _))))) (mss_one (ms_ret me_bl)) mss_nil))))))
    (mss_one (ms_ret (me_and (mb (me_cmp (op_eqD hr.units) cmd_eq (mb_name 7 (pv 7)) (mb (me_sortSet rfl (by rfl) T.z_sorted (by rfl) T.z_set (mb_name 7 (pv 7)))) (nomark _))) (me_one (me_cmp (op_eqD hr.units) cmd_eq (mb (me_call (ok_near T) (hr.mono (by decide)) (by rfl) T.g_near T.F_near.kp T.b_near (ma_cons (me_name 1 (pv 1)) (ma_cons (me_name 2 (pv 2)) (ma_cons me_int ma_nil))))) (mb (me_lst (ma_cons (me_op op_mod opd_mod (mb_name 10 (pv 10)) (mb_name 9 (pv 9))) ma_nil))) (nomark _)))))))))))))))))))
end
def txt_mk {K : PySem.W.Frag} {h : Heap} {mg : Str → Option Value} (X : K.In h) (Gg : h.Ns mainGlobals mg)
    {f0 : Addr} {od0 an0 : Option Addr} {sl0 : Array (Option Value)} {oc0 kV0 dc0 pm0 cd0 ct0 : Value}
    (a0 : PySem.W.nsIn K mainGlobals "is_whole" = some (some (.ref f0))) (l0 : K.lookup f0 = some ⟨oc0, od0, .func (PySem.W.fnOf "is_whole" "is_whole" (defArgs s_is_whole) (defBody s_is_whole) (defScope s_is_whole) .none kV0 dc0 pm0 an0 cd0 ct0), sl0⟩) (e0 : PySem.W.codeIn K cd0 "is_whole" = true) (k0 : PySem.W.keepIn K (.ref f0) = true)
    {f1 : Addr} {od1 an1 : Option Addr} {sl1 : Array (Option Value)} {oc1 kV1 dc1 pm1 cd1 ct1 : Value}
    (a1 : PySem.W.nsIn K mainGlobals "are_wheels" = some (some (.ref f1))) (l1 : K.lookup f1 = some ⟨oc1, od1, .func (PySem.W.fnOf "are_wheels" "are_wheels" (defArgs s_are_wheels) (defBody s_are_wheels) (defScope s_are_wheels) .none kV1 dc1 pm1 an1 cd1 ct1), sl1⟩) (e1 : PySem.W.codeIn K cd1 "are_wheels" = true) (k1 : PySem.W.keepIn K (.ref f1) = true)
    {f2 : Addr} {od2 an2 : Option Addr} {sl2 : Array (Option Value)} {oc2 kV2 dc2 pm2 cd2 ct2 : Value}
    (a2 : PySem.W.nsIn K mainGlobals "look_wheels" = some (some (.ref f2))) (l2 : K.lookup f2 = some ⟨oc2, od2, .func (PySem.W.fnOf "look_wheels" "look_wheels" (defArgs s_look_wheels) (defBody s_look_wheels) (defScope s_look_wheels) .none kV2 dc2 pm2 an2 cd2 ct2), sl2⟩) (e2 : PySem.W.codeIn K cd2 "look_wheels" = true) (k2 : PySem.W.keepIn K (.ref f2) = true)
    {f3 : Addr} {od3 an3 : Option Addr} {sl3 : Array (Option Value)} {oc3 kV3 dc3 pm3 cd3 ct3 : Value}
    (a3 : PySem.W.nsIn K mainGlobals "is_any_whole" = some (some (.ref f3))) (l3 : K.lookup f3 = some ⟨oc3, od3, .func (PySem.W.fnOf "is_any_whole" "is_any_whole" (defArgs s_is_any_whole) (defBody s_is_any_whole) (defScope s_is_any_whole) .none kV3 dc3 pm3 an3 cd3 ct3), sl3⟩) (e3 : PySem.W.codeIn K cd3 "is_any_whole" = true) (k3 : PySem.W.keepIn K (.ref f3) = true)
    {f4 : Addr} {od4 an4 : Option Addr} {sl4 : Array (Option Value)} {oc4 kV4 dc4 pm4 cd4 ct4 : Value}
    (a4 : PySem.W.nsIn K mainGlobals "readings" = some (some (.ref f4))) (l4 : K.lookup f4 = some ⟨oc4, od4, .func (PySem.W.fnOf "readings" "readings" (defArgs s_readings) (defBody s_readings) (defScope s_readings) .none kV4 dc4 pm4 an4 cd4 ct4), sl4⟩) (e4 : PySem.W.codeIn K cd4 "readings" = true) (k4 : PySem.W.keepIn K (.ref f4) = true)
    {f5 : Addr} {od5 an5 : Option Addr} {sl5 : Array (Option Value)} {oc5 kV5 dc5 pm5 cd5 ct5 : Value}
    (a5 : PySem.W.nsIn K mainGlobals "_law_cell" = some (some (.ref f5))) (l5 : K.lookup f5 = some ⟨oc5, od5, .func (PySem.W.fnOf "_law_cell" "_law_cell" (defArgs s__law_cell) (defBody s__law_cell) (defScope s__law_cell) .none kV5 dc5 pm5 an5 cd5 ct5), sl5⟩) (e5 : PySem.W.codeIn K cd5 "_law_cell" = true) (k5 : PySem.W.keepIn K (.ref f5) = true)
    {f6 : Addr} {od6 an6 : Option Addr} {sl6 : Array (Option Value)} {oc6 kV6 dc6 pm6 cd6 ct6 : Value}
    (a6 : PySem.W.nsIn K mainGlobals "_law_pick" = some (some (.ref f6))) (l6 : K.lookup f6 = some ⟨oc6, od6, .func (PySem.W.fnOf "_law_pick" "_law_pick" (defArgs s__law_pick) (defBody s__law_pick) (defScope s__law_pick) .none kV6 dc6 pm6 an6 cd6 ct6), sl6⟩) (e6 : PySem.W.codeIn K cd6 "_law_pick" = true) (k6 : PySem.W.keepIn K (.ref f6) = true)
    {f7 : Addr} {od7 an7 : Option Addr} {sl7 : Array (Option Value)} {oc7 kV7 dc7 pm7 cd7 ct7 : Value}
    (a7 : PySem.W.nsIn K mainGlobals "look_readings" = some (some (.ref f7))) (l7 : K.lookup f7 = some ⟨oc7, od7, .func (PySem.W.fnOf "look_readings" "look_readings" (defArgs s_look_readings) (defBody s_look_readings) (defScope s_look_readings) .none kV7 dc7 pm7 an7 cd7 ct7), sl7⟩) (e7 : PySem.W.codeIn K cd7 "look_readings" = true) (k7 : PySem.W.keepIn K (.ref f7) = true)
    {f8 : Addr} {od8 an8 : Option Addr} {sl8 : Array (Option Value)} {oc8 kV8 dc8 pm8 cd8 ct8 : Value}
    (a8 : PySem.W.nsIn K mainGlobals "apart" = some (some (.ref f8))) (l8 : K.lookup f8 = some ⟨oc8, od8, .func (PySem.W.fnOf "apart" "apart" (defArgs s_apart) (defBody s_apart) (defScope s_apart) .none kV8 dc8 pm8 an8 cd8 ct8), sl8⟩) (e8 : PySem.W.codeIn K cd8 "apart" = true) (k8 : PySem.W.keepIn K (.ref f8) = true)
    {f9 : Addr} {od9 an9 : Option Addr} {sl9 : Array (Option Value)} {oc9 kV9 dc9 pm9 cd9 ct9 : Value}
    (a9 : PySem.W.nsIn K mainGlobals "is_near" = some (some (.ref f9))) (l9 : K.lookup f9 = some ⟨oc9, od9, .func (PySem.W.fnOf "is_near" "is_near" (defArgs s_is_near) (defBody s_is_near) (defScope s_is_near) .none kV9 dc9 pm9 an9 cd9 ct9), sl9⟩) (e9 : PySem.W.codeIn K cd9 "is_near" = true) (k9 : PySem.W.keepIn K (.ref f9) = true)
    {f10 : Addr} {od10 an10 : Option Addr} {sl10 : Array (Option Value)} {oc10 kV10 dc10 pm10 cd10 ct10 : Value}
    (a10 : PySem.W.nsIn K mainGlobals "size_of" = some (some (.ref f10))) (l10 : K.lookup f10 = some ⟨oc10, od10, .func (PySem.W.fnOf "size_of" "size_of" (defArgs s_size_of) (defBody s_size_of) (defScope s_size_of) .none kV10 dc10 pm10 an10 cd10 ct10), sl10⟩) (e10 : PySem.W.codeIn K cd10 "size_of" = true) (k10 : PySem.W.keepIn K (.ref f10) = true)
    {f11 : Addr} {od11 an11 : Option Addr} {sl11 : Array (Option Value)} {oc11 kV11 dc11 pm11 cd11 ct11 : Value}
    (a11 : PySem.W.nsIn K mainGlobals "near" = some (some (.ref f11))) (l11 : K.lookup f11 = some ⟨oc11, od11, .func (PySem.W.fnOf "near" "near" (defArgs s_near) (defBody s_near) (defScope s_near) .none kV11 dc11 pm11 an11 cd11 ct11), sl11⟩) (e11 : PySem.W.codeIn K cd11 "near" = true) (k11 : PySem.W.keepIn K (.ref f11) = true)
    {f12 : Addr} {od12 an12 : Option Addr} {sl12 : Array (Option Value)} {oc12 kV12 dc12 pm12 cd12 ct12 : Value}
    (a12 : PySem.W.nsIn K mainGlobals "whole" = some (some (.ref f12))) (l12 : K.lookup f12 = some ⟨oc12, od12, .func (PySem.W.fnOf "whole" "whole" (defArgs s_whole) (defBody s_whole) (defScope s_whole) .none kV12 dc12 pm12 an12 cd12 ct12), sl12⟩) (e12 : PySem.W.codeIn K cd12 "whole" = true) (k12 : PySem.W.keepIn K (.ref f12) = true)
    {f13 : Addr} {od13 an13 : Option Addr} {sl13 : Array (Option Value)} {oc13 kV13 dc13 pm13 cd13 ct13 : Value}
    (a13 : PySem.W.nsIn K mainGlobals "place_by" = some (some (.ref f13))) (l13 : K.lookup f13 = some ⟨oc13, od13, .func (PySem.W.fnOf "place_by" "place_by" (defArgs s_place_by) (defBody s_place_by) (defScope s_place_by) .none kV13 dc13 pm13 an13 cd13 ct13), sl13⟩) (e13 : PySem.W.codeIn K cd13 "place_by" = true) (k13 : PySem.W.keepIn K (.ref f13) = true)
    {f14 : Addr} {od14 an14 : Option Addr} {sl14 : Array (Option Value)} {oc14 kV14 dc14 pm14 cd14 ct14 : Value}
    (a14 : PySem.W.nsIn K mainGlobals "most_slack" = some (some (.ref f14))) (l14 : K.lookup f14 = some ⟨oc14, od14, .func (PySem.W.fnOf "most_slack" "most_slack" (defArgs s_most_slack) (defBody s_most_slack) (defScope s_most_slack) .none kV14 dc14 pm14 an14 cd14 ct14), sl14⟩) (e14 : PySem.W.codeIn K cd14 "most_slack" = true) (k14 : PySem.W.keepIn K (.ref f14) = true)
    {f15 : Addr} {od15 an15 : Option Addr} {sl15 : Array (Option Value)} {oc15 kV15 dc15 pm15 cd15 ct15 : Value}
    (a15 : PySem.W.nsIn K mainGlobals "law" = some (some (.ref f15))) (l15 : K.lookup f15 = some ⟨oc15, od15, .func (PySem.W.fnOf "law" "law" (defArgs s_law) (defBody s_law) (defScope s_law) .none kV15 dc15 pm15 an15 cd15 ct15), sl15⟩) (e15 : PySem.W.codeIn K cd15 "law" = true) (k15 : PySem.W.keepIn K (.ref f15) = true)
    (z_all : PySem.W.nsIn K mainGlobals "all" = some none)
    (z_bool : PySem.W.nsIn K mainGlobals "bool" = some none)
    (z_int : PySem.W.nsIn K mainGlobals "int" = some none)
    (z_isinstance : PySem.W.nsIn K mainGlobals "isinstance" = some none)
    (z_len : PySem.W.nsIn K mainGlobals "len" = some none)
    (z_list : PySem.W.nsIn K mainGlobals "list" = some none)
    (z_max : PySem.W.nsIn K mainGlobals "max" = some none)
    (z_min : PySem.W.nsIn K mainGlobals "min" = some none)
    (z_range : PySem.W.nsIn K mainGlobals "range" = some none)
    (z_set : PySem.W.nsIn K mainGlobals "set" = some none)
    (z_sorted : PySem.W.nsIn K mainGlobals "sorted" = some none)
    (z_tuple : PySem.W.nsIn K mainGlobals "tuple" = some none)
    (z_zip : PySem.W.nsIn K mainGlobals "zip" = some none)
    {t_MOST_WHEELS : Tok} (c_MOST_WHEELS : PySem.W.nsIn K mainGlobals "MOST_WHEELS" = some (some (.int 3 t_MOST_WHEELS)))
    {t_MOST_SLACK : Tok} (c_MOST_SLACK : PySem.W.nsIn K mainGlobals "MOST_SLACK" = some (some (.int 9 t_MOST_SLACK)))
    : Txt K mg :=
  { a_is_whole := f0, d_is_whole := _, F_is_whole := fun_mk (st := s_is_whole) l0 e0 k0, g_is_whole := PySem.W.mg_of X Gg a0, b_is_whole := (fun_mk (st := s_is_whole) l0 e0 k0).binds (ps := ["thing", "low", "high"]) fun _ _ _ _ _ _ us hl => match us, hl with | [_, _, _], _ => rfl,
    a_are_wheels := f1, d_are_wheels := _, F_are_wheels := fun_mk (st := s_are_wheels) l1 e1 k1, g_are_wheels := PySem.W.mg_of X Gg a1, b_are_wheels := (fun_mk (st := s_are_wheels) l1 e1 k1).binds (ps := ["thing"]) fun _ _ _ _ _ _ us hl => match us, hl with | [_], _ => rfl,
    a_look_wheels := f2, d_look_wheels := _, F_look_wheels := fun_mk (st := s_look_wheels) l2 e2 k2, g_look_wheels := PySem.W.mg_of X Gg a2, b_look_wheels := (fun_mk (st := s_look_wheels) l2 e2 k2).binds (ps := ["wheels"]) fun _ _ _ _ _ _ us hl => match us, hl with | [_], _ => rfl,
    a_is_any_whole := f3, d_is_any_whole := _, F_is_any_whole := fun_mk (st := s_is_any_whole) l3 e3 k3, g_is_any_whole := PySem.W.mg_of X Gg a3, b_is_any_whole := (fun_mk (st := s_is_any_whole) l3 e3 k3).binds (ps := ["thing"]) fun _ _ _ _ _ _ us hl => match us, hl with | [_], _ => rfl,
    a_readings := f4, d_readings := _, F_readings := fun_mk (st := s_readings) l4 e4 k4, g_readings := PySem.W.mg_of X Gg a4, b_readings := (fun_mk (st := s_readings) l4 e4 k4).binds (ps := ["wheels", "place"]) fun _ _ _ _ _ _ us hl => match us, hl with | [_, _], _ => rfl,
    a__law_cell := f5, d__law_cell := _, F__law_cell := fun_mk (st := s__law_cell) l5 e5 k5, g__law_cell := PySem.W.mg_of X Gg a5, b__law_cell := (fun_mk (st := s__law_cell) l5 e5 k5).binds (ps := ["script", "k"]) fun _ _ _ _ _ _ us hl => match us, hl with | [_, _], _ => rfl,
    a__law_pick := f6, d__law_pick := _, F__law_pick := fun_mk (st := s__law_pick) l6 e6 k6, g__law_pick := PySem.W.mg_of X Gg a6, b__law_pick := (fun_mk (st := s__law_pick) l6 e6 k6).binds (ps := ["script", "k", "many"]) fun _ _ _ _ _ _ us hl => match us, hl with | [_, _, _], _ => rfl,
    a_look_readings := f7, d_look_readings := _, F_look_readings := fun_mk (st := s_look_readings) l7 e7 k7, g_look_readings := PySem.W.mg_of X Gg a7, b_look_readings := (fun_mk (st := s_look_readings) l7 e7 k7).binds (ps := ["wheels", "given"]) fun _ _ _ _ _ _ us hl => match us, hl with | [_, _], _ => rfl,
    a_apart := f8, d_apart := _, F_apart := fun_mk (st := s_apart) l8 e8 k8, g_apart := PySem.W.mg_of X Gg a8, b_apart := (fun_mk (st := s_apart) l8 e8 k8).binds (ps := ["wheel", "one", "other"]) fun _ _ _ _ _ _ us hl => match us, hl with | [_, _, _], _ => rfl,
    a_is_near := f9, d_is_near := _, F_is_near := fun_mk (st := s_is_near) l9 e9 k9, g_is_near := PySem.W.mg_of X Gg a9, b_is_near := (fun_mk (st := s_is_near) l9 e9 k9).binds (ps := ["wheels", "given", "place", "slack"]) fun _ _ _ _ _ _ us hl => match us, hl with | [_, _, _, _], _ => rfl,
    a_size_of := f10, d_size_of := _, F_size_of := fun_mk (st := s_size_of) l10 e10 k10, g_size_of := PySem.W.mg_of X Gg a10, b_size_of := (fun_mk (st := s_size_of) l10 e10 k10).binds (ps := ["wheels"]) fun _ _ _ _ _ _ us hl => match us, hl with | [_], _ => rfl,
    a_near := f11, d_near := _, F_near := fun_mk (st := s_near) l11 e11 k11, g_near := PySem.W.mg_of X Gg a11, b_near := (fun_mk (st := s_near) l11 e11 k11).binds (ps := ["wheels", "given", "slack"]) fun _ _ _ _ _ _ us hl => match us, hl with | [_, _, _], _ => rfl,
    a_whole := f12, d_whole := _, F_whole := fun_mk (st := s_whole) l12 e12 k12, g_whole := PySem.W.mg_of X Gg a12, b_whole := (fun_mk (st := s_whole) l12 e12 k12).binds (ps := ["wheels"]) fun _ _ _ _ _ _ us hl => match us, hl with | [_], _ => rfl,
    a_place_by := f13, d_place_by := _, F_place_by := fun_mk (st := s_place_by) l13 e13 k13, g_place_by := PySem.W.mg_of X Gg a13, b_place_by := (fun_mk (st := s_place_by) l13 e13 k13).binds (ps := ["wheels", "given"]) fun _ _ _ _ _ _ us hl => match us, hl with | [_, _], _ => rfl,
    a_most_slack := f14, d_most_slack := _, F_most_slack := fun_mk (st := s_most_slack) l14 e14 k14, g_most_slack := PySem.W.mg_of X Gg a14, b_most_slack := (fun_mk (st := s_most_slack) l14 e14 k14).binds (ps := ["wheels"]) fun _ _ _ _ _ _ us hl => match us, hl with | [_], _ => rfl,
    a_law := f15, d_law := _, F_law := fun_mk (st := s_law) l15 e15 k15, g_law := PySem.W.mg_of X Gg a15, b_law := (fun_mk (st := s_law) l15 e15 k15).binds (ps := ["script"]) fun _ _ _ _ _ _ us hl => match us, hl with | [_], _ => rfl,
    z_all := PySem.W.mg_none_of X Gg z_all,
    z_bool := PySem.W.mg_none_of X Gg z_bool,
    z_int := PySem.W.mg_none_of X Gg z_int,
    z_isinstance := PySem.W.mg_none_of X Gg z_isinstance,
    z_len := PySem.W.mg_none_of X Gg z_len,
    z_list := PySem.W.mg_none_of X Gg z_list,
    z_max := PySem.W.mg_none_of X Gg z_max,
    z_min := PySem.W.mg_none_of X Gg z_min,
    z_range := PySem.W.mg_none_of X Gg z_range,
    z_set := PySem.W.mg_none_of X Gg z_set,
    z_sorted := PySem.W.mg_none_of X Gg z_sorted,
    z_tuple := PySem.W.mg_none_of X Gg z_tuple,
    z_zip := PySem.W.mg_none_of X Gg z_zip,
    t_MOST_WHEELS := t_MOST_WHEELS, c_MOST_WHEELS := PySem.W.mg_of X Gg c_MOST_WHEELS,
    t_MOST_SLACK := t_MOST_SLACK, c_MOST_SLACK := PySem.W.mg_of X Gg c_MOST_SLACK }
theorem all_mk {l : PySem.W.OpenLaw} {w : World} {K : PySem.W.Frag} {h : Heap} {mg : Str → Option Value} {fa : Addr} (X : K.In h) (Gg : h.Ns mainGlobals mg) (hfa : mg "law" = some (.ref fa))
    {f0 : Addr} {od0 an0 : Option Addr} {sl0 : Array (Option Value)} {oc0 kV0 dc0 pm0 cd0 ct0 : Value}
    (a0 : PySem.W.nsIn K mainGlobals "is_whole" = some (some (.ref f0))) (l0 : K.lookup f0 = some ⟨oc0, od0, .func (PySem.W.fnOf "is_whole" "is_whole" (defArgs s_is_whole) (defBody s_is_whole) (defScope s_is_whole) .none kV0 dc0 pm0 an0 cd0 ct0), sl0⟩) (e0 : PySem.W.codeIn K cd0 "is_whole" = true) (k0 : PySem.W.keepIn K (.ref f0) = true)
    {f1 : Addr} {od1 an1 : Option Addr} {sl1 : Array (Option Value)} {oc1 kV1 dc1 pm1 cd1 ct1 : Value}
    (a1 : PySem.W.nsIn K mainGlobals "are_wheels" = some (some (.ref f1))) (l1 : K.lookup f1 = some ⟨oc1, od1, .func (PySem.W.fnOf "are_wheels" "are_wheels" (defArgs s_are_wheels) (defBody s_are_wheels) (defScope s_are_wheels) .none kV1 dc1 pm1 an1 cd1 ct1), sl1⟩) (e1 : PySem.W.codeIn K cd1 "are_wheels" = true) (k1 : PySem.W.keepIn K (.ref f1) = true)
    {f2 : Addr} {od2 an2 : Option Addr} {sl2 : Array (Option Value)} {oc2 kV2 dc2 pm2 cd2 ct2 : Value}
    (a2 : PySem.W.nsIn K mainGlobals "look_wheels" = some (some (.ref f2))) (l2 : K.lookup f2 = some ⟨oc2, od2, .func (PySem.W.fnOf "look_wheels" "look_wheels" (defArgs s_look_wheels) (defBody s_look_wheels) (defScope s_look_wheels) .none kV2 dc2 pm2 an2 cd2 ct2), sl2⟩) (e2 : PySem.W.codeIn K cd2 "look_wheels" = true) (k2 : PySem.W.keepIn K (.ref f2) = true)
    {f3 : Addr} {od3 an3 : Option Addr} {sl3 : Array (Option Value)} {oc3 kV3 dc3 pm3 cd3 ct3 : Value}
    (a3 : PySem.W.nsIn K mainGlobals "is_any_whole" = some (some (.ref f3))) (l3 : K.lookup f3 = some ⟨oc3, od3, .func (PySem.W.fnOf "is_any_whole" "is_any_whole" (defArgs s_is_any_whole) (defBody s_is_any_whole) (defScope s_is_any_whole) .none kV3 dc3 pm3 an3 cd3 ct3), sl3⟩) (e3 : PySem.W.codeIn K cd3 "is_any_whole" = true) (k3 : PySem.W.keepIn K (.ref f3) = true)
    {f4 : Addr} {od4 an4 : Option Addr} {sl4 : Array (Option Value)} {oc4 kV4 dc4 pm4 cd4 ct4 : Value}
    (a4 : PySem.W.nsIn K mainGlobals "readings" = some (some (.ref f4))) (l4 : K.lookup f4 = some ⟨oc4, od4, .func (PySem.W.fnOf "readings" "readings" (defArgs s_readings) (defBody s_readings) (defScope s_readings) .none kV4 dc4 pm4 an4 cd4 ct4), sl4⟩) (e4 : PySem.W.codeIn K cd4 "readings" = true) (k4 : PySem.W.keepIn K (.ref f4) = true)
    {f5 : Addr} {od5 an5 : Option Addr} {sl5 : Array (Option Value)} {oc5 kV5 dc5 pm5 cd5 ct5 : Value}
    (a5 : PySem.W.nsIn K mainGlobals "_law_cell" = some (some (.ref f5))) (l5 : K.lookup f5 = some ⟨oc5, od5, .func (PySem.W.fnOf "_law_cell" "_law_cell" (defArgs s__law_cell) (defBody s__law_cell) (defScope s__law_cell) .none kV5 dc5 pm5 an5 cd5 ct5), sl5⟩) (e5 : PySem.W.codeIn K cd5 "_law_cell" = true) (k5 : PySem.W.keepIn K (.ref f5) = true)
    {f6 : Addr} {od6 an6 : Option Addr} {sl6 : Array (Option Value)} {oc6 kV6 dc6 pm6 cd6 ct6 : Value}
    (a6 : PySem.W.nsIn K mainGlobals "_law_pick" = some (some (.ref f6))) (l6 : K.lookup f6 = some ⟨oc6, od6, .func (PySem.W.fnOf "_law_pick" "_law_pick" (defArgs s__law_pick) (defBody s__law_pick) (defScope s__law_pick) .none kV6 dc6 pm6 an6 cd6 ct6), sl6⟩) (e6 : PySem.W.codeIn K cd6 "_law_pick" = true) (k6 : PySem.W.keepIn K (.ref f6) = true)
    {f7 : Addr} {od7 an7 : Option Addr} {sl7 : Array (Option Value)} {oc7 kV7 dc7 pm7 cd7 ct7 : Value}
    (a7 : PySem.W.nsIn K mainGlobals "look_readings" = some (some (.ref f7))) (l7 : K.lookup f7 = some ⟨oc7, od7, .func (PySem.W.fnOf "look_readings" "look_readings" (defArgs s_look_readings) (defBody s_look_readings) (defScope s_look_readings) .none kV7 dc7 pm7 an7 cd7 ct7), sl7⟩) (e7 : PySem.W.codeIn K cd7 "look_readings" = true) (k7 : PySem.W.keepIn K (.ref f7) = true)
    {f8 : Addr} {od8 an8 : Option Addr} {sl8 : Array (Option Value)} {oc8 kV8 dc8 pm8 cd8 ct8 : Value}
    (a8 : PySem.W.nsIn K mainGlobals "apart" = some (some (.ref f8))) (l8 : K.lookup f8 = some ⟨oc8, od8, .func (PySem.W.fnOf "apart" "apart" (defArgs s_apart) (defBody s_apart) (defScope s_apart) .none kV8 dc8 pm8 an8 cd8 ct8), sl8⟩) (e8 : PySem.W.codeIn K cd8 "apart" = true) (k8 : PySem.W.keepIn K (.ref f8) = true)
    {f9 : Addr} {od9 an9 : Option Addr} {sl9 : Array (Option Value)} {oc9 kV9 dc9 pm9 cd9 ct9 : Value}
    (a9 : PySem.W.nsIn K mainGlobals "is_near" = some (some (.ref f9))) (l9 : K.lookup f9 = some ⟨oc9, od9, .func (PySem.W.fnOf "is_near" "is_near" (defArgs s_is_near) (defBody s_is_near) (defScope s_is_near) .none kV9 dc9 pm9 an9 cd9 ct9), sl9⟩) (e9 : PySem.W.codeIn K cd9 "is_near" = true) (k9 : PySem.W.keepIn K (.ref f9) = true)
    {f10 : Addr} {od10 an10 : Option Addr} {sl10 : Array (Option Value)} {oc10 kV10 dc10 pm10 cd10 ct10 : Value}
    (a10 : PySem.W.nsIn K mainGlobals "size_of" = some (some (.ref f10))) (l10 : K.lookup f10 = some ⟨oc10, od10, .func (PySem.W.fnOf "size_of" "size_of" (defArgs s_size_of) (defBody s_size_of) (defScope s_size_of) .none kV10 dc10 pm10 an10 cd10 ct10), sl10⟩) (e10 : PySem.W.codeIn K cd10 "size_of" = true) (k10 : PySem.W.keepIn K (.ref f10) = true)
    {f11 : Addr} {od11 an11 : Option Addr} {sl11 : Array (Option Value)} {oc11 kV11 dc11 pm11 cd11 ct11 : Value}
    (a11 : PySem.W.nsIn K mainGlobals "near" = some (some (.ref f11))) (l11 : K.lookup f11 = some ⟨oc11, od11, .func (PySem.W.fnOf "near" "near" (defArgs s_near) (defBody s_near) (defScope s_near) .none kV11 dc11 pm11 an11 cd11 ct11), sl11⟩) (e11 : PySem.W.codeIn K cd11 "near" = true) (k11 : PySem.W.keepIn K (.ref f11) = true)
    {f12 : Addr} {od12 an12 : Option Addr} {sl12 : Array (Option Value)} {oc12 kV12 dc12 pm12 cd12 ct12 : Value}
    (a12 : PySem.W.nsIn K mainGlobals "whole" = some (some (.ref f12))) (l12 : K.lookup f12 = some ⟨oc12, od12, .func (PySem.W.fnOf "whole" "whole" (defArgs s_whole) (defBody s_whole) (defScope s_whole) .none kV12 dc12 pm12 an12 cd12 ct12), sl12⟩) (e12 : PySem.W.codeIn K cd12 "whole" = true) (k12 : PySem.W.keepIn K (.ref f12) = true)
    {f13 : Addr} {od13 an13 : Option Addr} {sl13 : Array (Option Value)} {oc13 kV13 dc13 pm13 cd13 ct13 : Value}
    (a13 : PySem.W.nsIn K mainGlobals "place_by" = some (some (.ref f13))) (l13 : K.lookup f13 = some ⟨oc13, od13, .func (PySem.W.fnOf "place_by" "place_by" (defArgs s_place_by) (defBody s_place_by) (defScope s_place_by) .none kV13 dc13 pm13 an13 cd13 ct13), sl13⟩) (e13 : PySem.W.codeIn K cd13 "place_by" = true) (k13 : PySem.W.keepIn K (.ref f13) = true)
    {f14 : Addr} {od14 an14 : Option Addr} {sl14 : Array (Option Value)} {oc14 kV14 dc14 pm14 cd14 ct14 : Value}
    (a14 : PySem.W.nsIn K mainGlobals "most_slack" = some (some (.ref f14))) (l14 : K.lookup f14 = some ⟨oc14, od14, .func (PySem.W.fnOf "most_slack" "most_slack" (defArgs s_most_slack) (defBody s_most_slack) (defScope s_most_slack) .none kV14 dc14 pm14 an14 cd14 ct14), sl14⟩) (e14 : PySem.W.codeIn K cd14 "most_slack" = true) (k14 : PySem.W.keepIn K (.ref f14) = true)
    {f15 : Addr} {od15 an15 : Option Addr} {sl15 : Array (Option Value)} {oc15 kV15 dc15 pm15 cd15 ct15 : Value}
    (a15 : PySem.W.nsIn K mainGlobals "law" = some (some (.ref f15))) (l15 : K.lookup f15 = some ⟨oc15, od15, .func (PySem.W.fnOf "law" "law" (defArgs s_law) (defBody s_law) (defScope s_law) .none kV15 dc15 pm15 an15 cd15 ct15), sl15⟩) (e15 : PySem.W.codeIn K cd15 "law" = true) (k15 : PySem.W.keepIn K (.ref f15) = true)
    (z_all : PySem.W.nsIn K mainGlobals "all" = some none)
    (z_bool : PySem.W.nsIn K mainGlobals "bool" = some none)
    (z_int : PySem.W.nsIn K mainGlobals "int" = some none)
    (z_isinstance : PySem.W.nsIn K mainGlobals "isinstance" = some none)
    (z_len : PySem.W.nsIn K mainGlobals "len" = some none)
    (z_list : PySem.W.nsIn K mainGlobals "list" = some none)
    (z_max : PySem.W.nsIn K mainGlobals "max" = some none)
    (z_min : PySem.W.nsIn K mainGlobals "min" = some none)
    (z_range : PySem.W.nsIn K mainGlobals "range" = some none)
    (z_set : PySem.W.nsIn K mainGlobals "set" = some none)
    (z_sorted : PySem.W.nsIn K mainGlobals "sorted" = some none)
    (z_tuple : PySem.W.nsIn K mainGlobals "tuple" = some none)
    (z_zip : PySem.W.nsIn K mainGlobals "zip" = some none)
    {t_MOST_WHEELS : Tok} (c_MOST_WHEELS : PySem.W.nsIn K mainGlobals "MOST_WHEELS" = some (some (.int 3 t_MOST_WHEELS)))
    {t_MOST_SLACK : Tok} (c_MOST_SLACK : PySem.W.nsIn K mainGlobals "MOST_SLACK" = some (some (.int 9 t_MOST_SLACK)))
    : ∃ fd : FuncData, (∀ (s : Shared) (v : Value), BindsTo s fd ⟨[v], []⟩ [("script", v)]) ∧ ∀ base : Heap, K.In base → base.Ns mainGlobals mg → ∀ ns : List Int, FnOk l.prog w K mg base CX0 5 fa fd ["script"] (spM K ⟨ns, fun _ => none⟩ mg (m_law (pick ns))) := by
  have e := hfa.symm.trans (PySem.W.mg_of X Gg a15)
  cases e
  exact ⟨_, fun s v => .of_eq rfl, fun base _ _ ns => ok_law (txt_mk X Gg a0 l0 e0 k0 a1 l1 e1 k1 a2 l2 e2 k2 a3 l3 e3 k3 a4 l4 e4 k4 a5 l5 e5 k5 a6 l6 e6 k6 a7 l7 e7 k7 a8 l8 e8 k8 a9 l9 e9 k9 a10 l10 e10 k10 a11 l11 e11 k11 a12 l12 e12 k12 a13 l13 e13 k13 a14 l14 e14 k14 a15 l15 e15 k15 z_all z_bool z_int z_isinstance z_len z_list z_max z_min z_range z_set z_sorted z_tuple z_zip c_MOST_WHEELS c_MOST_SLACK)⟩
/-- the law's promise: what its mirror tells of every script -/
def spLaw (K : PySem.W.Frag) : Sp := fun vs H Qk _ => ∃ (a : Addr) (ns : List Int), vs = [.ref a] ∧ SqL K H a (ns.map V.int) ∧ m_law (pick ns) [SCR] = .rt (.bool true) ∧ ∀ H', Qk (.bl true) H'
theorem law_end {Pr : Program} {w : World} {K : PySem.W.Frag} {mg : Str → Option Value} {base : Heap} {k : Nat} {f : Addr} {fd : FuncData} (F : ∀ ns : List Int, FnOk Pr w K mg base CX0 k f fd ["script"] (spM K ⟨ns, fun _ => none⟩ mg (m_law (pick ns)))) : FnOk Pr w K mg base CX0 k f fd ["script"] (spLaw K) := by
  refine ⟨fun vs H Qk E ⟨a, ns, e, _⟩ => by rw [e]; rfl, fun A outer s H args us vs Qk E hr he hb hv h => ?_⟩
  obtain ⟨a, ns, e, hs, hm, hq⟩ := h
  refine (F ns).run A outer s H args us vs Qk E hr he hb hv ?_
  subst e
  refine ⟨unt H, [SCR], unt_sub H, .cons (.scr (scr_unt hs)) .nil, ?_⟩
  rw [hm]
  intro G' H' v _ q
  cases q
  exact hq H'
end G
namespace G
open PySem PySem.Spec PyProof.Rows L2 M
theorem all_end {l : PySem.W.OpenLaw} {w : World} {K : PySem.W.Frag} {h : Heap} {mg : Str → Option Value} {fa : Addr} (X : K.In h) (Gg : h.Ns mainGlobals mg) (hfa : mg "law" = some (.ref fa))
    {f0 : Addr} {od0 an0 : Option Addr} {sl0 : Array (Option Value)} {oc0 kV0 dc0 pm0 cd0 ct0 : Value}
    (a0 : PySem.W.nsIn K mainGlobals "is_whole" = some (some (.ref f0))) (l0 : K.lookup f0 = some ⟨oc0, od0, .func (PySem.W.fnOf "is_whole" "is_whole" (defArgs s_is_whole) (defBody s_is_whole) (defScope s_is_whole) .none kV0 dc0 pm0 an0 cd0 ct0), sl0⟩) (e0 : PySem.W.codeIn K cd0 "is_whole" = true) (k0 : PySem.W.keepIn K (.ref f0) = true)
    {f1 : Addr} {od1 an1 : Option Addr} {sl1 : Array (Option Value)} {oc1 kV1 dc1 pm1 cd1 ct1 : Value}
    (a1 : PySem.W.nsIn K mainGlobals "are_wheels" = some (some (.ref f1))) (l1 : K.lookup f1 = some ⟨oc1, od1, .func (PySem.W.fnOf "are_wheels" "are_wheels" (defArgs s_are_wheels) (defBody s_are_wheels) (defScope s_are_wheels) .none kV1 dc1 pm1 an1 cd1 ct1), sl1⟩) (e1 : PySem.W.codeIn K cd1 "are_wheels" = true) (k1 : PySem.W.keepIn K (.ref f1) = true)
    {f2 : Addr} {od2 an2 : Option Addr} {sl2 : Array (Option Value)} {oc2 kV2 dc2 pm2 cd2 ct2 : Value}
    (a2 : PySem.W.nsIn K mainGlobals "look_wheels" = some (some (.ref f2))) (l2 : K.lookup f2 = some ⟨oc2, od2, .func (PySem.W.fnOf "look_wheels" "look_wheels" (defArgs s_look_wheels) (defBody s_look_wheels) (defScope s_look_wheels) .none kV2 dc2 pm2 an2 cd2 ct2), sl2⟩) (e2 : PySem.W.codeIn K cd2 "look_wheels" = true) (k2 : PySem.W.keepIn K (.ref f2) = true)
    {f3 : Addr} {od3 an3 : Option Addr} {sl3 : Array (Option Value)} {oc3 kV3 dc3 pm3 cd3 ct3 : Value}
    (a3 : PySem.W.nsIn K mainGlobals "is_any_whole" = some (some (.ref f3))) (l3 : K.lookup f3 = some ⟨oc3, od3, .func (PySem.W.fnOf "is_any_whole" "is_any_whole" (defArgs s_is_any_whole) (defBody s_is_any_whole) (defScope s_is_any_whole) .none kV3 dc3 pm3 an3 cd3 ct3), sl3⟩) (e3 : PySem.W.codeIn K cd3 "is_any_whole" = true) (k3 : PySem.W.keepIn K (.ref f3) = true)
    {f4 : Addr} {od4 an4 : Option Addr} {sl4 : Array (Option Value)} {oc4 kV4 dc4 pm4 cd4 ct4 : Value}
    (a4 : PySem.W.nsIn K mainGlobals "readings" = some (some (.ref f4))) (l4 : K.lookup f4 = some ⟨oc4, od4, .func (PySem.W.fnOf "readings" "readings" (defArgs s_readings) (defBody s_readings) (defScope s_readings) .none kV4 dc4 pm4 an4 cd4 ct4), sl4⟩) (e4 : PySem.W.codeIn K cd4 "readings" = true) (k4 : PySem.W.keepIn K (.ref f4) = true)
    {f5 : Addr} {od5 an5 : Option Addr} {sl5 : Array (Option Value)} {oc5 kV5 dc5 pm5 cd5 ct5 : Value}
    (a5 : PySem.W.nsIn K mainGlobals "_law_cell" = some (some (.ref f5))) (l5 : K.lookup f5 = some ⟨oc5, od5, .func (PySem.W.fnOf "_law_cell" "_law_cell" (defArgs s__law_cell) (defBody s__law_cell) (defScope s__law_cell) .none kV5 dc5 pm5 an5 cd5 ct5), sl5⟩) (e5 : PySem.W.codeIn K cd5 "_law_cell" = true) (k5 : PySem.W.keepIn K (.ref f5) = true)
    {f6 : Addr} {od6 an6 : Option Addr} {sl6 : Array (Option Value)} {oc6 kV6 dc6 pm6 cd6 ct6 : Value}
    (a6 : PySem.W.nsIn K mainGlobals "_law_pick" = some (some (.ref f6))) (l6 : K.lookup f6 = some ⟨oc6, od6, .func (PySem.W.fnOf "_law_pick" "_law_pick" (defArgs s__law_pick) (defBody s__law_pick) (defScope s__law_pick) .none kV6 dc6 pm6 an6 cd6 ct6), sl6⟩) (e6 : PySem.W.codeIn K cd6 "_law_pick" = true) (k6 : PySem.W.keepIn K (.ref f6) = true)
    {f7 : Addr} {od7 an7 : Option Addr} {sl7 : Array (Option Value)} {oc7 kV7 dc7 pm7 cd7 ct7 : Value}
    (a7 : PySem.W.nsIn K mainGlobals "look_readings" = some (some (.ref f7))) (l7 : K.lookup f7 = some ⟨oc7, od7, .func (PySem.W.fnOf "look_readings" "look_readings" (defArgs s_look_readings) (defBody s_look_readings) (defScope s_look_readings) .none kV7 dc7 pm7 an7 cd7 ct7), sl7⟩) (e7 : PySem.W.codeIn K cd7 "look_readings" = true) (k7 : PySem.W.keepIn K (.ref f7) = true)
    {f8 : Addr} {od8 an8 : Option Addr} {sl8 : Array (Option Value)} {oc8 kV8 dc8 pm8 cd8 ct8 : Value}
    (a8 : PySem.W.nsIn K mainGlobals "apart" = some (some (.ref f8))) (l8 : K.lookup f8 = some ⟨oc8, od8, .func (PySem.W.fnOf "apart" "apart" (defArgs s_apart) (defBody s_apart) (defScope s_apart) .none kV8 dc8 pm8 an8 cd8 ct8), sl8⟩) (e8 : PySem.W.codeIn K cd8 "apart" = true) (k8 : PySem.W.keepIn K (.ref f8) = true)
    {f9 : Addr} {od9 an9 : Option Addr} {sl9 : Array (Option Value)} {oc9 kV9 dc9 pm9 cd9 ct9 : Value}
    (a9 : PySem.W.nsIn K mainGlobals "is_near" = some (some (.ref f9))) (l9 : K.lookup f9 = some ⟨oc9, od9, .func (PySem.W.fnOf "is_near" "is_near" (defArgs s_is_near) (defBody s_is_near) (defScope s_is_near) .none kV9 dc9 pm9 an9 cd9 ct9), sl9⟩) (e9 : PySem.W.codeIn K cd9 "is_near" = true) (k9 : PySem.W.keepIn K (.ref f9) = true)
    {f10 : Addr} {od10 an10 : Option Addr} {sl10 : Array (Option Value)} {oc10 kV10 dc10 pm10 cd10 ct10 : Value}
    (a10 : PySem.W.nsIn K mainGlobals "size_of" = some (some (.ref f10))) (l10 : K.lookup f10 = some ⟨oc10, od10, .func (PySem.W.fnOf "size_of" "size_of" (defArgs s_size_of) (defBody s_size_of) (defScope s_size_of) .none kV10 dc10 pm10 an10 cd10 ct10), sl10⟩) (e10 : PySem.W.codeIn K cd10 "size_of" = true) (k10 : PySem.W.keepIn K (.ref f10) = true)
    {f11 : Addr} {od11 an11 : Option Addr} {sl11 : Array (Option Value)} {oc11 kV11 dc11 pm11 cd11 ct11 : Value}
    (a11 : PySem.W.nsIn K mainGlobals "near" = some (some (.ref f11))) (l11 : K.lookup f11 = some ⟨oc11, od11, .func (PySem.W.fnOf "near" "near" (defArgs s_near) (defBody s_near) (defScope s_near) .none kV11 dc11 pm11 an11 cd11 ct11), sl11⟩) (e11 : PySem.W.codeIn K cd11 "near" = true) (k11 : PySem.W.keepIn K (.ref f11) = true)
    {f12 : Addr} {od12 an12 : Option Addr} {sl12 : Array (Option Value)} {oc12 kV12 dc12 pm12 cd12 ct12 : Value}
    (a12 : PySem.W.nsIn K mainGlobals "whole" = some (some (.ref f12))) (l12 : K.lookup f12 = some ⟨oc12, od12, .func (PySem.W.fnOf "whole" "whole" (defArgs s_whole) (defBody s_whole) (defScope s_whole) .none kV12 dc12 pm12 an12 cd12 ct12), sl12⟩) (e12 : PySem.W.codeIn K cd12 "whole" = true) (k12 : PySem.W.keepIn K (.ref f12) = true)
    {f13 : Addr} {od13 an13 : Option Addr} {sl13 : Array (Option Value)} {oc13 kV13 dc13 pm13 cd13 ct13 : Value}
    (a13 : PySem.W.nsIn K mainGlobals "place_by" = some (some (.ref f13))) (l13 : K.lookup f13 = some ⟨oc13, od13, .func (PySem.W.fnOf "place_by" "place_by" (defArgs s_place_by) (defBody s_place_by) (defScope s_place_by) .none kV13 dc13 pm13 an13 cd13 ct13), sl13⟩) (e13 : PySem.W.codeIn K cd13 "place_by" = true) (k13 : PySem.W.keepIn K (.ref f13) = true)
    {f14 : Addr} {od14 an14 : Option Addr} {sl14 : Array (Option Value)} {oc14 kV14 dc14 pm14 cd14 ct14 : Value}
    (a14 : PySem.W.nsIn K mainGlobals "most_slack" = some (some (.ref f14))) (l14 : K.lookup f14 = some ⟨oc14, od14, .func (PySem.W.fnOf "most_slack" "most_slack" (defArgs s_most_slack) (defBody s_most_slack) (defScope s_most_slack) .none kV14 dc14 pm14 an14 cd14 ct14), sl14⟩) (e14 : PySem.W.codeIn K cd14 "most_slack" = true) (k14 : PySem.W.keepIn K (.ref f14) = true)
    {f15 : Addr} {od15 an15 : Option Addr} {sl15 : Array (Option Value)} {oc15 kV15 dc15 pm15 cd15 ct15 : Value}
    (a15 : PySem.W.nsIn K mainGlobals "law" = some (some (.ref f15))) (l15 : K.lookup f15 = some ⟨oc15, od15, .func (PySem.W.fnOf "law" "law" (defArgs s_law) (defBody s_law) (defScope s_law) .none kV15 dc15 pm15 an15 cd15 ct15), sl15⟩) (e15 : PySem.W.codeIn K cd15 "law" = true) (k15 : PySem.W.keepIn K (.ref f15) = true)
    (z_all : PySem.W.nsIn K mainGlobals "all" = some none)
    (z_bool : PySem.W.nsIn K mainGlobals "bool" = some none)
    (z_int : PySem.W.nsIn K mainGlobals "int" = some none)
    (z_isinstance : PySem.W.nsIn K mainGlobals "isinstance" = some none)
    (z_len : PySem.W.nsIn K mainGlobals "len" = some none)
    (z_list : PySem.W.nsIn K mainGlobals "list" = some none)
    (z_max : PySem.W.nsIn K mainGlobals "max" = some none)
    (z_min : PySem.W.nsIn K mainGlobals "min" = some none)
    (z_range : PySem.W.nsIn K mainGlobals "range" = some none)
    (z_set : PySem.W.nsIn K mainGlobals "set" = some none)
    (z_sorted : PySem.W.nsIn K mainGlobals "sorted" = some none)
    (z_tuple : PySem.W.nsIn K mainGlobals "tuple" = some none)
    (z_zip : PySem.W.nsIn K mainGlobals "zip" = some none)
    {t_MOST_WHEELS : Tok} (c_MOST_WHEELS : PySem.W.nsIn K mainGlobals "MOST_WHEELS" = some (some (.int 3 t_MOST_WHEELS)))
    {t_MOST_SLACK : Tok} (c_MOST_SLACK : PySem.W.nsIn K mainGlobals "MOST_SLACK" = some (some (.int 9 t_MOST_SLACK)))
    : ∃ fd : FuncData, (∀ (s : Shared) (v : Value), BindsTo s fd ⟨[v], []⟩ [("script", v)]) ∧ ∀ base : Heap, K.In base → base.Ns mainGlobals mg → FnOk l.prog w K mg base CX0 5 fa fd ["script"] (spLaw K) := by
  obtain ⟨fd, h1, h2⟩ := all_mk (l := l) (w := w) X Gg hfa a0 l0 e0 k0 a1 l1 e1 k1 a2 l2 e2 k2 a3 l3 e3 k3 a4 l4 e4 k4 a5 l5 e5 k5 a6 l6 e6 k6 a7 l7 e7 k7 a8 l8 e8 k8 a9 l9 e9 k9 a10 l10 e10 k10 a11 l11 e11 k11 a12 l12 e12 k12 a13 l13 e13 k13 a14 l14 e14 k14 a15 l15 e15 k15 z_all z_bool z_int z_isinstance z_len z_list z_max z_min z_range z_set z_sorted z_tuple z_zip c_MOST_WHEELS c_MOST_SLACK
  exact ⟨fd, h1, fun base b1 b2 => law_end fun ns => h2 base b1 b2 ns⟩
end G

namespace G
open M PySem
def leaf : D → Bool
  | .int _ => true
  | .bool _ => true
  | .none => true
  | _ => false
theorem lay_leafs : ∀ xs : List D, xs.all leaf = true → PyData.canLayAll0 xs = true
  | [], _ => by simp [PyData.canLayAll0]
  | x :: xs, h => by
    simp only [List.all_cons, Bool.and_eq_true] at h
    have ih := lay_leafs xs h.2
    cases x <;> first | (simp [leaf] at h; done) | simp [PyData.canLayAll0, PyData.canLay0, ih]
theorem depth_leafs : ∀ xs : List D, xs.all leaf = true → PyData.depthAll xs = 0
  | [], _ => by simp [PyData.depthAll]
  | x :: xs, h => by
    simp only [List.all_cons, Bool.and_eq_true] at h
    have ih := depth_leafs xs h.2
    cases x <;> first | (simp [leaf] at h; done) | simp [PyData.depthAll, PyData.depth, ih]
theorem shaped_leafs {xs : List D} (h : xs.all leaf = true) : SeqAt.shaped (.list xs) = true := by
  simp [SeqAt.shaped, PyData.canLay0, lay_leafs xs h, PyData.depth, depth_leafs xs h]
theorem eqv_leafs : ∀ xs : List D, xs.all leaf = true → PyData.eqvAll xs xs = true
  | [], _ => by simp [PyData.eqvAll]
  | x :: xs, h => by
    simp only [List.all_cons, Bool.and_eq_true] at h
    have ih := eqv_leafs xs h.2
    cases x <;> first | (simp [leaf] at h; done) | simp [PyData.eqvAll, PyData.eqv, ih]
theorem neD_same {xs : List D} (h : xs.all leaf = true) : neD (.list xs) (.list xs) = some false := by
  unfold neD
  rw [shaped_leafs h, if_pos (by rfl)]
  simp [PyData.eqv, eqv_leafs xs h]
theorem eqD_same {xs : List D} (h : xs.all leaf = true) : eqD (.list xs) (.list xs) = some true := by
  unfold eqD
  rw [shaped_leafs h, if_pos (by rfl)]
  simp [PyData.eqv, eqv_leafs xs h]
theorem leaf_opt (o : Option Int) : leaf (optD o) = true := by cases o <;> rfl
theorem ixT (row : List Int) (i : Nat) (h : i < row.length) : ixD (.tuple (row.map .int)) (.int (i : Nat)) = some (.int (row.getD i 0)) := by
  simp only [ixD, L2.atI, L2.ixN, List.length_map]
  rw [if_pos (by omega), if_pos (by omega)]
  simp [h, List.getD_eq_getElem?_getD]
theorem ixL {α : Type} (f : α → D) (row : List α) (i : Nat) (h : i < row.length) : ixD (.list (row.map f)) (.int (i : Nat)) = some (f row[i]) := by
  simp only [ixD, L2.atI, L2.ixN, List.length_map]
  rw [if_pos (by omega), if_pos (by omega)]
  simp [h]
theorem sIx_mid {n : Nat} {d : Nat} {i : Nat} (h : i ≤ n) : HT.sIx n d (some (i : Int)) = i := by
  unfold HT.sIx
  simp
  rw [if_neg (by omega)]
  omega
theorem uniq_one {xs : List Int} (h : xs ≠ []) : (Mset.uniq xs).length = 1 ↔ ∃ a, ∀ x ∈ xs, x = a := by
  constructor
  · intro e
    obtain ⟨a, ha⟩ := List.length_eq_one_iff.mp e
    exact ⟨a, fun x hx => by have := Mset.mem_uniq.mpr hx; rw [ha] at this; simpa using this⟩
  · rintro ⟨a, ha⟩
    have hn := Mset.uniq_nodup xs
    have hm : ∀ x ∈ Mset.uniq xs, x = a := fun x hx => ha x (Mset.mem_uniq.mp hx)
    cases e : Mset.uniq xs with
    | nil =>
      obtain ⟨y, hy⟩ := List.exists_mem_of_ne_nil xs h
      have := Mset.mem_uniq.mpr hy
      rw [e] at this
      simp at this
    | cons b t =>
      cases t with
      | nil => rfl
      | cons c t =>
        rw [e] at hn hm
        have h1 := hm b (by simp)
        have h2 := hm c (by simp)
        simp [h1, h2] at hn
theorem rng_get {n i : Nat} {x : D} (h : (rng 0 n)[i]? = some x) : i < n ∧ x = .int (i : Nat) := by
  unfold rng at h
  rw [List.getElem?_map] at h
  by_cases c : i < n
  · rw [List.getElem?_range c] at h
    simp at h
    exact ⟨c, h.symm⟩
  · rw [List.getElem?_eq_none (by simp; omega)] at h
    cases h
theorem rng_len (lo : Int) (n : Nat) : (rng lo n).length = n := by simp [rng]
theorem isNone_opt (o : Option Int) : isNone (optD o) = decide (o = none) := by cases o <;> rfl
theorem ixT' (row : List Int) {k : Int} (h0 : 0 ≤ k) (h : k.toNat < row.length) : ixD (.tuple (row.map .int)) (.int k) = some (.int (row.getD k.toNat 0)) := by
  have := ixT row k.toNat h
  rwa [Int.toNat_of_nonneg h0] at this
theorem getD_rng {row : List Int} (h : ∀ x ∈ row, 0 ≤ x ∧ x ≤ 3) (i : Nat) : 0 ≤ row.getD i 0 ∧ row.getD i 0 ≤ 3 := by
  rw [List.getD_eq_getElem?_getD]
  cases e : row[i]? with
  | none => simp
  | some x => exact h x (List.mem_of_getElem? e)
/-- neighbours -/
def pairs {α : Type} (g : Int → Int → α) : Int → List Int → List α
  | _, [] => []
  | a, x :: xs => g a x :: pairs g x xs
theorem pairs_len {α : Type} (g : Int → Int → α) : ∀ (xs : List Int) (a : Int), (pairs g a xs).length = xs.length
  | [], _ => rfl
  | x :: xs, a => by simp [pairs, pairs_len g xs]
theorem pairs_range {α : Type} (g : Int → Int → α) : ∀ (xs : List Int) (a : Int), pairs g a xs = (List.range xs.length).map fun i => g ((a :: xs).getD i 0) ((a :: xs).getD (i + 1) 0)
  | [], _ => rfl
  | x :: xs, a => by
    rw [pairs, pairs_range g xs x, List.length_cons, List.range_succ_eq_map, List.map_cons, List.map_map]
    rfl
theorem zip_lc {ρ : Rho} {b : D → Rho → Option Rho} {f : Rho → R D} (g : Int → Int → D) (β : Int → Int → Rho) (hb : ∀ x y : Int, b (.tuple [.int x, .int y]) ρ = some (β x y)) : ∀ (xs : List Int) (a : Int), (∀ x y, x ∈ a :: xs → y ∈ xs → f (β x y) = .ok (g x y)) → lcL b yes f ρ (zipD ((a :: xs).map .int) (xs.map .int)) = some (pairs g a xs)
  | [], a, _ => rfl
  | x :: xs, a, h => by
    have ih := zip_lc g β hb xs x fun u v hu hv => h u v (by simp at hu ⊢; rcases hu with rfl | hu <;> simp [*]) (by simp [hv])
    have e : zipD ((a :: x :: xs).map PyData.int) ((x :: xs).map PyData.int) = .tuple [.int a, .int x] :: zipD ((x :: xs).map PyData.int) (xs.map PyData.int) := rfl
    rw [e, lcL, hb]
    simp only [show ∀ ρ, yes ρ = R.ok true from fun _ => rfl, h a x (by simp) (by simp)]
    rw [ih]
    rfl
theorem enum_ints (row : List Int) : enumD (row.map .int) = (List.range row.length).map fun (i : Nat) => PyData.tuple [.int (i : Nat), .int (row.getD i 0)] := by
  unfold enumD
  refine List.ext_getElem (by simp) fun i h1 h2 => ?_
  simp at h1
  simp [List.getD_eq_getElem?_getD, h1]
theorem none_in (l : List (Option Int)) : inD .none (.list (l.map optD)) = some (decide (none ∈ l)) := by
  simp only [inD]
  rw [shaped_none, shaped_leafs (by simp [leaf_opt]), if_pos (by rfl), List.any_map]
  congr 1
  rw [Bool.eq_iff_iff, List.any_eq_true, decide_eq_true_iff]
  constructor
  · rintro ⟨x, hx, he⟩
    cases x with
    | none => exact hx
    | some i => simp [optD, PyData.eqv] at he
  · intro h
    exact ⟨none, h, by simp [optD, PyData.eqv]⟩
theorem ints_opts : ∀ l : List (Option Int), none ∉ l → intsOf (l.map optD) = some (l.map (·.getD 0))
  | [], _ => rfl
  | none :: l, h => absurd (by simp) h
  | some i :: l, h => by
    simp only [List.mem_cons, not_or] at h
    simp [optD, intsOf, ints_opts l h.2]
theorem eqD_opt (a b : Option Int) : eqD (optD a) (optD b) = some (decide (a = b)) := by
  unfold eqD
  rw [shaped_opt, shaped_opt, if_pos (by rfl)]
  cases a <;> cases b <;> simp [optD, PyData.eqv]
  congr 1
theorem neD_bool (a b : Bool) : neD (.bool a) (.bool b) = some (a != b) := by
  unfold neD
  rw [shaped_bool, shaped_bool, if_pos (by rfl)]
  cases a <;> cases b <;> rfl
end G
namespace G
open M PySem
theorem m_isw (i lo hi : Int) : m_is_whole [.int i, .int lo, .int hi] = .rt (.bool (decide (lo ≤ i) && decide (i ≤ hi))) := by
  by_cases c1 : lo ≤ i
  · by_cases c2 : i ≤ hi <;> simp [m_is_whole, tl0_is_whole, fnM0, fnM, sSeq, sIf, sRet, sRetN, sSet, sNil, sDrop, sPar, sPar3, sPar4, sUnp, sApp, sExt, sPut, sFrz, own, frz, nD, nO, nLst, e1, e2, nm, bnm, cst, bv, chE, andT, orT, notT, andV, orV, notV, ifE, cons', tupE, lstE, asB, M.call, ncall, lcall, flatR, flatD, Out.r, Out.s, R.bind, R.of, R.out, pickF, bName, bTup, bNames, itE, items, sFor, lcD, sBad, yes, isiE, isi, isDict, leD, c1, c2]
  · simp [m_is_whole, tl0_is_whole, fnM0, fnM, sSeq, sIf, sRet, sRetN, sSet, sNil, sDrop, sPar, sPar3, sPar4, sUnp, sApp, sExt, sPut, sFrz, own, frz, nD, nO, nLst, e1, e2, nm, bnm, cst, bv, chE, andT, orT, notT, andV, orV, notV, ifE, cons', tupE, lstE, asB, M.call, ncall, lcall, flatR, flatD, Out.r, Out.s, R.bind, R.of, R.out, pickF, bName, bTup, bNames, itE, items, sFor, lcD, sBad, yes, isiE, isi, isDict, leD, c1]
/-- wheels -/
structure Wh (ws : List Int) : Prop where
  l1 : 1 ≤ ws.length
  l3 : ws.length ≤ 3
  r : ∀ w ∈ ws, 2 ≤ w ∧ w ≤ 10
theorem m_are {ws : List Int} (h : Wh ws) : m_are_wheels [.tuple (ws.map .int)] = .rt (.bool true) := by
  refine fn_rt rfl ?_
  have c1 : (1 : Int) ≤ (ws.length : Int) := by have := h.l1; omega
  have c2 : (ws.length : Int) ≤ 3 := by have := h.l3; omega
  show tl0_are_wheels [.d (.tuple (ws.map .int)), .no] = _
  rw [tl0_are_wheels, seq_nx (ρ' := [.d (.tuple (ws.map .int)), .no]) (by simp [fnM0, fnM, sSeq, sIf, sRet, sRetN, sSet, sNil, sDrop, sPar, sPar3, sPar4, sUnp, sApp, sExt, sPut, sFrz, own, frz, nD, nO, nLst, e1, e2, nm, bnm, cst, bv, chE, andT, orT, notT, andV, orV, notV, ifE, cons', tupE, lstE, asB, M.call, ncall, lcall, flatR, flatD, Out.r, Out.s, R.bind, R.of, R.out, pickF, bName, bTup, bNames, itE, items, sFor, lcD, sBad, yes, isiE, isi, isDict, lenD, leD, c1, c2])]
  have key : lcL (bName 1) yes ce1_are_wheels [.d (.tuple (ws.map .int)), .no] (ws.map .int) = some ((ws.map fun _ => true).map .bool) := by
    rw [lcL_all (d := PyData.int) (β := fun w => [.d (.tuple (ws.map .int)), .d (.int w)]) (F := fun _ => .bool true)]
    · simp
    · intro w hw
      have := h.r w hw
      refine ⟨rfl, ?_⟩
      have e := m_isw w 2 16
      rw [decide_eq_true (by omega : (2 : Int) ≤ w), decide_eq_true (by omega : w ≤ 16)] at e
      simp [ce1_are_wheels, M.call, cons', nm, cst, R.bind, e, Out.r]
  have h3 : (ws.map PyData.int).length ≤ 1000000 := by simp; have := h.l3; omega
  have hb : boolsOf ((ws.map fun _ => true).map PyData.bool) = some (ws.map fun _ => true) := bools_map _
  simp only [tl1_are_wheels, sRet, e1, lcD, lcE, itE, items, nm, cst, cons', R.bind, R.of, List.getElem?_cons_zero, h3, if_true, wip, List.set, key, allD, hb, Option.map, R.out]
  simp
theorem m_lookw {ws : List Int} (h : Wh ws) : m_look_wheels [.tuple (ws.map .int)] = .rt .none := by
  refine fn_nx rfl (ρ := [.d (.tuple (ws.map .int))]) ?_
  show tl0_look_wheels [.d (.tuple (ws.map .int))] = _
  simp [tl0_look_wheels, fnM0, fnM, sSeq, sIf, sRet, sRetN, sSet, sNil, sDrop, sPar, sPar3, sPar4, sUnp, sApp, sExt, sPut, sFrz, own, frz, nD, nO, nLst, e1, e2, nm, bnm, cst, bv, chE, andT, orT, notT, andV, orV, notV, ifE, cons', tupE, lstE, asB, M.call, ncall, lcall, flatR, flatD, Out.r, Out.s, R.bind, R.of, R.out, pickF, bName, bTup, bNames, itE, items, sFor, lcD, sBad, yes, m_are h]
/-! ### the size -/
def lc (a b : Int) : Int := (Int.lcm a b : Nat)
theorem lc_pos {a b : Int} (ha : 0 < a) (hb : 0 < b) : 0 < lc a b := by
  unfold lc
  have := Int.lcm_pos (by omega : a ≠ 0) (by omega : b ≠ 0)
  omega
theorem lc_l (a b : Int) : a ∣ lc a b := Int.dvd_lcm_left a b
theorem lc_r (a b : Int) : b ∣ lc a b := Int.dvd_lcm_right a b
theorem lc_dvd {a b m : Int} (h1 : a ∣ m) (h2 : b ∣ m) : lc a b ∣ m := Int.coe_lcm_dvd h1 h2
theorem lc_le {a b : Int} (ha : 0 < a) (hb : 0 < b) : lc a b ≤ a * b := Int.le_of_dvd (Int.mul_pos ha hb) (lc_dvd (Int.dvd_mul_right a b) (Int.dvd_mul_left a b))
theorem gcd_mod {x y : Int} (hx : 0 ≤ x) (hy : 0 < y) : (Int.gcd y (x % y) : Int) = Int.gcd x y := by
  have a1 : ((Int.gcd y (x % y) : Nat) : Int) ∣ y := Int.gcd_dvd_left y (x % y)
  have a2 : ((Int.gcd y (x % y) : Nat) : Int) ∣ x % y := Int.gcd_dvd_right y (x % y)
  have b1 : ((Int.gcd x y : Nat) : Int) ∣ x := Int.gcd_dvd_left x y
  have b2 : ((Int.gcd x y : Nat) : Int) ∣ y := Int.gcd_dvd_right x y
  refine Int.dvd_antisymm (by omega) (by omega) (Int.dvd_coe_gcd ?_ a1) (Int.dvd_coe_gcd b2 ?_)
  · have h3 := Int.dvd_add (Int.dvd_mul_of_dvd_left a1 (c := x / y)) a2
    rwa [Int.mul_ediv_add_emod] at h3
  · rw [Int.emod_def]
    exact Int.dvd_sub b1 (Int.dvd_mul_of_dvd_left b2)
theorem lc_eq {a b : Int} (ha : 0 < a) (hb : 0 < b) : a * b / (Int.gcd a b : Int) = lc a b := by
  have hg : 0 < (Int.gcd a b : Int) := by
    have := Int.gcd_pos_of_ne_zero_left b (by omega : a ≠ 0)
    omega
  have e := Int.gcd_mul_lcm a b
  have e2 : a * b = (Int.gcd a b : Int) * lc a b := by
    have h1 : ((Int.gcd a b * Int.lcm a b : Nat) : Int) = ((a.natAbs * b.natAbs : Nat) : Int) := by rw [e]
    have h2 : ((a.natAbs * b.natAbs : Nat) : Int) = a * b := by
      rw [Int.natCast_mul, show (a.natAbs : Int) = a by omega, show (b.natAbs : Int) = b by omega]
    rw [h2] at h1
    rw [← h1, Int.natCast_mul]
    rfl
  rw [e2, Int.mul_ediv_cancel_left _ (by omega)]
theorem gcd_w {T a b : Sl} : ∀ (n : Nat) (x y : Int), 0 ≤ x → 0 ≤ y → y < n → whL (e2 neD (bnm 4) (cst (.int 0))) (sPar 3 4 (nD (nm 4)) (nD (e2 modD (bnm 3) (bnm 4)))) (n + 1) [T, a, b, .d (.int x), .d (.int y)] = .nx [T, a, b, .d (.int (Int.gcd x y : Nat)), .d (.int 0)]
  | 0, x, y, _, h1, h2 => by omega
  | n + 1, x, y, h0, h1, h2 => by
    by_cases c : y = 0
    · subst c
      rw [whL]
      have := neD_int 0 0
      rw [decide_eq_true rfl] at this
      have hx : ((Int.gcd x 0 : Nat) : Int) = x := by simp; omega
      simp [e2, bnm, cst, R.bind, R.of, R.out, this]
      omega
    · have hy : 0 < y := by omega
      have hm := Int.emod_nonneg x (show y ≠ 0 from c)
      have hm2 := Int.emod_lt_of_pos x hy
      have e := gcd_w (T := T) (a := a) (b := b) n y (x % y) h1 hm (by omega)
      rw [gcd_mod h0 hy] at e
      rw [whL]
      have := neD_int y 0
      rw [decide_eq_false c] at this
      simp only [e2, bnm, nm, cst, R.bind, R.of, R.out, List.getElem?_cons_zero, List.getElem?_cons_succ, this, sPar, nD, modD, hy, if_true, List.set, Bool.not_false]
      exact e
def szf : Int → List Int → Int
  | m, [] => m
  | m, w :: ws => szf (lc m w) ws
theorem szf_pos : ∀ (ws : List Int) (m : Int), 0 < m → (∀ w ∈ ws, 0 < w) → 0 < szf m ws
  | [], m, h, _ => h
  | w :: ws, m, h, k => szf_pos ws _ (lc_pos h (k w (by simp))) fun v hv => k v (by simp [hv])
theorem szf_m : ∀ (ws : List Int) (m : Int), m ∣ szf m ws
  | [], m => Int.dvd_refl m
  | w :: ws, m => Int.dvd_trans (lc_l m w) (szf_m ws _)
theorem szf_w : ∀ (ws : List Int) (m : Int), ∀ w ∈ ws, w ∣ szf m ws
  | [], m, w, h => by cases h
  | v :: ws, m, w, h => by
    rcases List.mem_cons.mp h with rfl | h
    · exact Int.dvd_trans (lc_r m w) (szf_m ws _)
    · exact szf_w ws _ w h
theorem szf_dvd : ∀ (ws : List Int) (m k : Int), m ∣ k → (∀ w ∈ ws, w ∣ k) → szf m ws ∣ k
  | [], m, k, h, _ => h
  | w :: ws, m, k, h, q => szf_dvd ws _ k (lc_dvd h (q w (by simp))) fun v hv => q v (by simp [hv])
theorem szf_le : ∀ (ws : List Int) (m : Int), 0 < m → (∀ w ∈ ws, 2 ≤ w ∧ w ≤ 10) → szf m ws ≤ m * 10 ^ ws.length
  | [], m, h, _ => by simp [szf]
  | w :: ws, m, h, k => by
    have hw := k w (by simp)
    have h1 := szf_le ws (lc m w) (lc_pos h (by omega)) fun v hv => k v (by simp [hv])
    have h2 := lc_le h (by omega : 0 < w)
    have h3 : lc m w ≤ m * 10 := Int.le_trans h2 (Int.mul_le_mul_of_nonneg_left hw.2 (by omega))
    have h4 : lc m w * 10 ^ ws.length ≤ m * 10 * 10 ^ ws.length := Int.mul_le_mul_of_nonneg_right h3 (Int.pow_nonneg (by omega))
    simp only [szf, List.length_cons]
    rw [Int.pow_succ', ← Int.mul_assoc]
    exact Int.le_trans h1 h4
theorem size_turn {T : Sl} {m w : Int} {s2 s3 s4 : Sl} (hm : 0 < m) (hm2 : m ≤ 100000) (hw : 2 ≤ w ∧ w ≤ 10) :
    lb1_size_of [T, .d (.int m), .d (.int w), s3, s4] = .nx [T, .d (.int (lc m w)), .d (.int w), .d (.int (Int.gcd m w : Nat)), .d (.int 0)] := by
  have hg : 0 < (Int.gcd m w : Int) := by
    have := Int.gcd_pos_of_ne_zero_left w (by omega : m ≠ 0)
    omega
  have hg2 : (Int.gcd m w : Int) < 1073741824 := by
    have : (Int.gcd m w : Int) ≤ m := Int.le_of_dvd hm (Int.gcd_dvd_left m w)
    omega
  have e := gcd_w (T := T) (a := .d (.int m)) (b := .d (.int w)) 19999 m w (by omega) (by omega) (by omega)
  rw [lb1_size_of, seq_nx (ρ' := [T, .d (.int m), .d (.int w), .d (.int m), .d (.int w)]) (by simp [fnM0, fnM, sSeq, sIf, sRet, sRetN, sSet, sNil, sDrop, sPar, sPar3, sPar4, sUnp, sApp, sExt, sPut, sFrz, own, frz, nD, nO, nLst, e1, e2, nm, bnm, cst, bv, chE, andT, orT, notT, andV, orV, notV, ifE, cons', tupE, lstE, asB, M.call, ncall, lcall, flatR, flatD, Out.r, Out.s, R.bind, R.of, R.out, pickF, bName, bTup, bNames, itE, items, sFor, lcD, sBad, yes]), seq_nx e]
  have hc : 0 < (Int.gcd m w : Int) ∧ (Int.gcd m w : Int) < 1073741824 := ⟨hg, hg2⟩
  have hc2 : -18446744073709551616 < m ∧ m < 18446744073709551616 ∨ -18446744073709551616 < w ∧ w < 18446744073709551616 := by omega
  simp only [hc2, sSet, nD, e2, bnm, mulD, fdivD, R.bind, R.of, R.out, List.getElem?_cons_zero, List.getElem?_cons_succ, hc, and_self, if_true, lc_eq hm (by omega : 0 < w), List.set]
theorem size_loop {T : Sl} : ∀ (ws : List Int) (m : Int) (s2 s3 s4 : Sl), 0 < m → m * 10 ^ ws.length ≤ 100000 → (∀ w ∈ ws, 2 ≤ w ∧ w ≤ 10) → ∃ t2 t3 t4, forL (bName 2) lb1_size_of (ws.map .int) [T, .d (.int m), s2, s3, s4] = .nx [T, .d (.int (szf m ws)), t2, t3, t4]
  | [], m, s2, s3, s4, _, _, _ => ⟨s2, s3, s4, rfl⟩
  | w :: ws, m, s2, s3, s4, h, hb, k => by
    have hw := k w (by simp)
    have p10 : (1 : Int) ≤ 10 ^ ws.length := by
      have : (0 : Int) < 10 ^ ws.length := Int.pow_pos (by omega)
      omega
    have hb' : m * 10 * 10 ^ ws.length ≤ 100000 := by
      rw [List.length_cons, Int.pow_succ', ← Int.mul_assoc] at hb
      exact hb
    have hm : m ≤ 100000 := by
      have : m * 10 * 1 ≤ m * 10 * 10 ^ ws.length := Int.mul_le_mul_of_nonneg_left p10 (by omega)
      omega
    have hl : lc m w ≤ m * 10 := Int.le_trans (lc_le h (by omega)) (Int.mul_le_mul_of_nonneg_left hw.2 (by omega))
    obtain ⟨t2, t3, t4, e⟩ := size_loop (T := T) ws (lc m w) (.d (.int w)) (.d (.int (Int.gcd m w : Nat))) (.d (.int 0)) (lc_pos h (by omega)) (Int.le_trans (Int.mul_le_mul_of_nonneg_right hl (by omega)) hb') fun v hv => k v (by simp [hv])
    refine ⟨t2, t3, t4, ?_⟩
    simp only [List.map_cons, forL, bName, List.set, size_turn (s2 := s2) h hm hw]
    exact e
theorem m_size {ws : List Int} (h : ws.length ≤ 4) (k : ∀ w ∈ ws, 2 ≤ w ∧ w ≤ 10) : m_size_of [.tuple (ws.map .int)] = .rt (.int (szf 1 ws)) := by
  refine fn_rt rfl ?_
  show tl0_size_of [.d (.tuple (ws.map .int)), .no, .no, .no, .no] = _
  have hp : (10 : Int) ^ ws.length ≤ 100000 := by
    have : ws.length = 0 ∨ ws.length = 1 ∨ ws.length = 2 ∨ ws.length = 3 ∨ ws.length = 4 := by omega
    rcases this with e | e | e | e | e <;> rw [e] <;> decide
  obtain ⟨t2, t3, t4, e⟩ := size_loop (T := .d (.tuple (ws.map .int))) ws 1 .no .no .no (by omega) (by omega) k
  rw [tl0_size_of, seq_nx (ρ' := [.d (.tuple (ws.map .int)), .d (.int 1), .no, .no, .no]) (by simp [fnM0, fnM, sSeq, sIf, sRet, sRetN, sSet, sNil, sDrop, sPar, sPar3, sPar4, sUnp, sApp, sExt, sPut, sFrz, own, frz, nD, nO, nLst, e1, e2, nm, bnm, cst, bv, chE, andT, orT, notT, andV, orV, notV, ifE, cons', tupE, lstE, asB, M.call, ncall, lcall, flatR, flatD, Out.r, Out.s, R.bind, R.of, R.out, pickF, bName, bTup, bNames, itE, items, sFor, lcD, sBad, yes]), tl1_size_of, seq_nx (ρ' := [.d (.tuple (ws.map .int)), .d (.int (szf 1 ws)), t2, t3, t4]) (by
    simp only [sFor, itE, nm, items, R.bind, R.of, R.out, List.getElem?_cons_zero]
    exact e)]
  simp [tl2_size_of, fnM0, fnM, sSeq, sIf, sRet, sRetN, sSet, sNil, sDrop, sPar, sPar3, sPar4, sUnp, sApp, sExt, sPut, sFrz, own, frz, nD, nO, nLst, e1, e2, nm, bnm, cst, bv, chE, andT, orT, notT, andV, orV, notV, ifE, cons', tupE, lstE, asB, M.call, ncall, lcall, flatR, flatD, Out.r, Out.s, R.bind, R.of, R.out, pickF, bName, bTup, bNames, itE, items, sFor, lcD, sBad, yes]
/-- the size of two numbers -/
theorem m_size2 {a w : Int} (ha : 0 < a) (ha2 : a ≤ 1000) (hw : 2 ≤ w ∧ w ≤ 10) : m_size_of [.tuple [.int a, .int w]] = .rt (.int (lc a w)) := by
  refine fn_rt rfl ?_
  show tl0_size_of [.d (.tuple [.int a, .int w]), .no, .no, .no, .no] = _
  have e0 : lc 1 a = a := by
    have h1 := lc_dvd (a := 1) (b := a) (m := a) (Int.one_dvd a) (Int.dvd_refl a)
    have h2 := lc_r 1 a
    have := lc_pos (a := 1) (b := a) (by omega) ha
    exact Int.dvd_antisymm (by omega) (by omega) h1 h2
  have g1 : (Int.gcd 1 a : Int) = 1 := by simp
  have t1 : lb1_size_of [.d (.tuple [.int a, .int w]), .d (.int 1), .d (.int a), .no, .no] = .nx [.d (.tuple [.int a, .int w]), .d (.int a), .d (.int a), .d (.int 1), .d (.int 0)] := by
    have e := gcd_w (T := .d (.tuple [.int a, .int w])) (a := .d (.int 1)) (b := .d (.int a)) 19999 1 a (by omega) (by omega) (by omega)
    rw [lb1_size_of, seq_nx (ρ' := [.d (.tuple [.int a, .int w]), .d (.int 1), .d (.int a), .d (.int 1), .d (.int a)]) (by simp [fnM0, fnM, sSeq, sIf, sRet, sRetN, sSet, sNil, sDrop, sPar, sPar3, sPar4, sUnp, sApp, sExt, sPut, sFrz, own, frz, nD, nO, nLst, e1, e2, nm, bnm, cst, bv, chE, andT, orT, notT, andV, orV, notV, ifE, cons', tupE, lstE, asB, M.call, ncall, lcall, flatR, flatD, Out.r, Out.s, R.bind, R.of, R.out, pickF, bName, bTup, bNames, itE, items, sFor, lcD, sBad, yes]), seq_nx e, g1]
    simp [fnM0, fnM, sSeq, sIf, sRet, sRetN, sSet, sNil, sDrop, sPar, sPar3, sPar4, sUnp, sApp, sExt, sPut, sFrz, own, frz, nD, nO, nLst, e1, e2, nm, bnm, cst, bv, chE, andT, orT, notT, andV, orV, notV, ifE, cons', tupE, lstE, asB, M.call, ncall, lcall, flatR, flatD, Out.r, Out.s, R.bind, R.of, R.out, pickF, bName, bTup, bNames, itE, items, sFor, lcD, sBad, yes, mulD, fdivD]
  have t2 := size_turn (T := .d (.tuple [.int a, .int w])) (s2 := .no) (s3 := .d (.int 1)) (s4 := .d (.int 0)) ha (by omega) hw
  rw [tl0_size_of, seq_nx (ρ' := [.d (.tuple [.int a, .int w]), .d (.int 1), .no, .no, .no]) (by simp [fnM0, fnM, sSeq, sIf, sRet, sRetN, sSet, sNil, sDrop, sPar, sPar3, sPar4, sUnp, sApp, sExt, sPut, sFrz, own, frz, nD, nO, nLst, e1, e2, nm, bnm, cst, bv, chE, andT, orT, notT, andV, orV, notV, ifE, cons', tupE, lstE, asB, M.call, ncall, lcall, flatR, flatD, Out.r, Out.s, R.bind, R.of, R.out, pickF, bName, bTup, bNames, itE, items, sFor, lcD, sBad, yes]), tl1_size_of, seq_nx (ρ' := [.d (.tuple [.int a, .int w]), .d (.int (lc a w)), .d (.int w), .d (.int (Int.gcd a w : Nat)), .d (.int 0)]) (by
    simp only [sFor, itE, nm, items, R.bind, R.of, R.out, List.getElem?_cons_zero, forL, bName, List.set, t1, t2])]
  simp [tl2_size_of, fnM0, fnM, sSeq, sIf, sRet, sRetN, sSet, sNil, sDrop, sPar, sPar3, sPar4, sUnp, sApp, sExt, sPut, sFrz, own, frz, nD, nO, nLst, e1, e2, nm, bnm, cst, bv, chE, andT, orT, notT, andV, orV, notV, ifE, cons', tupE, lstE, asB, M.call, ncall, lcall, flatR, flatD, Out.r, Out.s, R.bind, R.of, R.out, pickF, bName, bTup, bNames, itE, items, sFor, lcD, sBad, yes]
end G
namespace G
open M PySem
theorem m_anyw (i : Int) : m_is_any_whole [.int i] = .rt (.bool true) := by simp [m_is_any_whole, tl0_is_any_whole, fnM0, fnM, sSeq, sIf, sRet, sRetN, sSet, sNil, sDrop, sPar, sPar3, sPar4, sUnp, sApp, sExt, sPut, sFrz, own, frz, nD, nO, nLst, e1, e2, nm, bnm, cst, bv, chE, andT, orT, notT, andV, orV, notV, ifE, cons', tupE, lstE, asB, M.call, ncall, lcall, flatR, flatD, Out.r, Out.s, R.bind, R.of, R.out, pickF, bName, bTup, bNames, itE, items, sFor, lcD, sBad, yes, isiE, isi, isDict]
theorem m_read {ws : List Int} (h : Wh ws) (p : Int) : m_readings [.tuple (ws.map .int), .int p] = .rt (.tuple ((ws.map fun w => p % w).map .int)) := by
  refine fn_rt rfl ?_
  show tl0_readings [.d (.tuple (ws.map .int)), .d (.int p), .no] = _
  rw [tl0_readings, seq_nx (ρ' := [.d (.tuple (ws.map .int)), .d (.int p), .no]) (by simp [fnM0, fnM, sSeq, sIf, sRet, sRetN, sSet, sNil, sDrop, sPar, sPar3, sPar4, sUnp, sApp, sExt, sPut, sFrz, own, frz, nD, nO, nLst, e1, e2, nm, bnm, cst, bv, chE, andT, orT, notT, andV, orV, notV, ifE, cons', tupE, lstE, asB, M.call, ncall, lcall, flatR, flatD, Out.r, Out.s, R.bind, R.of, R.out, pickF, bName, bTup, bNames, itE, items, sFor, lcD, sBad, yes, m_lookw h]), tl1_readings, seq_nx (ρ' := [.d (.tuple (ws.map .int)), .d (.int p), .no]) (by simp [fnM0, fnM, sSeq, sIf, sRet, sRetN, sSet, sNil, sDrop, sPar, sPar3, sPar4, sUnp, sApp, sExt, sPut, sFrz, own, frz, nD, nO, nLst, e1, e2, nm, bnm, cst, bv, chE, andT, orT, notT, andV, orV, notV, ifE, cons', tupE, lstE, asB, M.call, ncall, lcall, flatR, flatD, Out.r, Out.s, R.bind, R.of, R.out, pickF, bName, bTup, bNames, itE, items, sFor, lcD, sBad, yes, m_anyw])]
  have key : lcL (bName 2) yes (e2 modD (bnm 1) (bnm 2)) [.d (.tuple (ws.map .int)), .d (.int p), .no] (ws.map .int) = some ((ws.map fun w => p % w).map .int) := by
    rw [lcL_all (d := PyData.int) (β := fun w => [.d (.tuple (ws.map .int)), .d (.int p), .d (.int w)]) (F := fun w => .int (p % w))]
    · simp
    · intro w hw
      have := h.r w hw
      have hp : 0 < w := by omega
      exact ⟨rfl, by simp [fnM0, fnM, sSeq, sIf, sRet, sRetN, sSet, sNil, sDrop, sPar, sPar3, sPar4, sUnp, sApp, sExt, sPut, sFrz, own, frz, nD, nO, nLst, e1, e2, nm, bnm, cst, bv, chE, andT, orT, notT, andV, orV, notV, ifE, cons', tupE, lstE, asB, M.call, ncall, lcall, flatR, flatD, Out.r, Out.s, R.bind, R.of, R.out, pickF, bName, bTup, bNames, itE, items, sFor, lcD, sBad, yes, modD, hp]⟩
  have h3 : (ws.map PyData.int).length ≤ 1000000 := by simp; have := h.l3; omega
  simp only [tl2_readings, sRet, e1, lcD, lcE, itE, items, nm, cst, cons', R.bind, R.of, List.getElem?_cons_zero, h3, if_true, wip, List.set, key, tupleD, R.out]
theorem zipD_map (xs ys : List Int) : zipD (xs.map .int) (ys.map .int) = (xs.zip ys).map fun x => PyData.tuple [.int x.1, .int x.2] := by
  unfold zipD
  induction xs generalizing ys with
  | nil => simp
  | cons x xs ih =>
    cases ys with
    | nil => simp
    | cons y ys => simp [ih]
/-- readings of wheels -/
structure Rd (ws gs : List Int) : Prop where
  len : gs.length = ws.length
  r : ∀ x ∈ gs.zip ws, 0 ≤ x.1 ∧ x.1 < x.2
theorem m_lookr {ws gs : List Int} (h : Wh ws) (g : Rd ws gs) : m_look_readings [.tuple (ws.map .int), .tuple (gs.map .int)] = .rt .none := by
  refine fn_nx rfl (ρ := [.d (.tuple (ws.map .int)), .d (.tuple (gs.map .int)), .no, .no]) ?_
  show tl0_look_readings [.d (.tuple (ws.map .int)), .d (.tuple (gs.map .int)), .no, .no] = _
  have hn := neD_int (gs.length : Int) (ws.length : Int)
  rw [decide_eq_true (by rw [g.len])] at hn
  rw [tl0_look_readings, seq_nx (ρ' := [.d (.tuple (ws.map .int)), .d (.tuple (gs.map .int)), .no, .no]) (by simp [fnM0, fnM, sSeq, sIf, sRet, sRetN, sSet, sNil, sDrop, sPar, sPar3, sPar4, sUnp, sApp, sExt, sPut, sFrz, own, frz, nD, nO, nLst, e1, e2, nm, bnm, cst, bv, chE, andT, orT, notT, andV, orV, notV, ifE, cons', tupE, lstE, asB, M.call, ncall, lcall, flatR, flatD, Out.r, Out.s, R.bind, R.of, R.out, pickF, bName, bTup, bNames, itE, items, sFor, lcD, sBad, yes, isiTE, isi, isDict, lenD, hn])]
  have key : lcL (bTup [2, 3]) yes ce1_look_readings [.d (.tuple (ws.map .int)), .d (.tuple (gs.map .int)), .no, .no] ((gs.zip ws).map fun x => PyData.tuple [.int x.1, .int x.2]) = some (((gs.zip ws).map fun _ => true).map .bool) := by
    rw [lcL_all (d := fun x : Int × Int => PyData.tuple [.int x.1, .int x.2]) (β := fun x => [.d (.tuple (ws.map .int)), .d (.tuple (gs.map .int)), .d (.int x.1), .d (.int x.2)]) (F := fun _ => .bool true)]
    · simp
    · intro x hx
      have := g.r x hx
      refine ⟨rfl, ?_⟩
      have e := m_isw x.1 0 (x.2 - 1)
      rw [decide_eq_true this.1, decide_eq_true (by omega : x.1 ≤ x.2 - 1)] at e
      simp only [ce1_look_readings, M.call, cons', nm, bnm, e2, subD, cst, R.bind, R.of, List.getElem?_cons_zero, List.getElem?_cons_succ, e, Out.r]
      rfl
  have h3 : ((gs.zip ws).map fun x => PyData.tuple [.int x.1, .int x.2]).length ≤ 1000000 := by simp; have := h.l3; have := g.len; omega
  have hb : boolsOf (((gs.zip ws).map fun _ => true).map PyData.bool) = some ((gs.zip ws).map fun _ => true) := bools_map _
  have hall : ((gs.zip ws).map fun _ => true).all id = true := by simp
  simp only [tl1_look_readings, sIf, notT, e1, asB, lcD, lcE, zpE, nm, cst, cons', R.bind, R.of, List.getElem?_cons_zero, List.getElem?_cons_succ, zipD_map, h3, if_true, wip, List.set, key, allD, hb, Option.map, R.out, hall, Bool.not_true, Bool.false_eq_true, if_false, sNil]
/-! ### place_by -/
theorem filt_first {T : Nat → Bool} {n a0 : Nat} (h : a0 < n) (ht : T a0 = true) (hn : ∀ a, a < a0 → T a = false) : ∃ r, (List.range n).filter T = a0 :: r := by
  obtain ⟨m, rfl⟩ : ∃ m, n = a0 + (m + 1) := ⟨n - a0 - 1, by omega⟩
  rw [List.range_add, List.filter_append, List.filter_eq_nil_iff.mpr (fun a ha => by rw [hn a (List.mem_range.mp ha)]; simp), List.nil_append, List.range_succ_eq_map, List.map_cons, List.filter_cons_of_pos (by simpa using ht)]
  exact ⟨_, rfl⟩
theorem emod_of_dvd_sub {a b m : Int} (h : m ∣ a - b) : a % m = b % m := Int.emod_eq_emod_iff_emod_sub_eq_zero.mpr (Int.emod_eq_zero_of_dvd h)
theorem dvd_of_emod {a b m : Int} (h : a % m = b % m) : m ∣ a - b := Int.dvd_of_emod_eq_zero (Int.emod_eq_emod_iff_emod_sub_eq_zero.mp h)
theorem crt {p m w : Int} (hm : 0 < m) (hw : 0 < w) : ∃ r, ((List.range w.toNat).filter fun a : Nat => decide ((p % m + m * (a : Int)) % w = p % w)).map (fun a : Nat => p % m + m * (a : Int)) = p % lc m w :: r := by
  have hL := lc_pos hm hw
  have q0 := Int.emod_nonneg p (by omega : lc m w ≠ 0)
  have q1 := Int.emod_lt_of_pos p hL
  have e1' : p % lc m w % m = p % m := Int.emod_emod_of_dvd p (lc_l m w)
  have e2' : p % lc m w % w = p % w := Int.emod_emod_of_dvd p (lc_r m w)
  have hd := Int.mul_ediv_add_emod (p % lc m w) m
  have d0 : 0 ≤ p % lc m w / m := Int.ediv_nonneg q0 (by omega)
  have d1 : p % lc m w / m < w := Int.ediv_lt_of_lt_mul hm (by rw [Int.mul_comm]; exact Int.lt_of_lt_of_le q1 (lc_le hm hw))
  have heq : p % m + m * (((p % lc m w / m).toNat : Nat) : Int) = p % lc m w := by
    rw [show (((p % lc m w / m).toNat : Nat) : Int) = p % lc m w / m by omega, ← e1']
    omega
  obtain ⟨r, e⟩ := filt_first (T := fun a : Nat => decide ((p % m + m * (a : Int)) % w = p % w)) (n := w.toNat) (a0 := (p % lc m w / m).toNat) (by omega) (by rw [heq, e2']; simp) (fun a ha => by
    refine decide_eq_false fun hc => ?_
    have c1 : m ∣ (p % m + m * (a : Int)) - p := by
      have := dvd_of_emod (a := p % m) (b := p) (m := m) (Int.emod_emod p m)
      have h2 : (p % m + m * (a : Int)) - p = (p % m - p) + m * (a : Int) := by omega
      rw [h2]
      exact Int.dvd_add this (Int.dvd_mul_right m _)
    have c2 : w ∣ (p % m + m * (a : Int)) - p := dvd_of_emod hc
    have c3 := emod_of_dvd_sub (lc_dvd c1 c2)
    have c4 : p % m + m * (a : Int) < p % lc m w := by
      have : m * (a : Int) < m * (((p % lc m w / m).toNat : Nat) : Int) := Int.mul_lt_mul_of_pos_left (by omega) hm
      omega
    have c5 : 0 ≤ p % m + m * (a : Int) := Int.add_nonneg (Int.emod_nonneg p (by omega)) (Int.mul_nonneg (by omega) (by omega))
    rw [Int.emod_eq_of_lt c5 (by omega)] at c3
    omega)
  rw [e]
  exact ⟨_, by rw [List.map_cons, heq]⟩
theorem rng0 (n : Nat) : rng 0 n = (List.range n).map fun (i : Nat) => PyData.int (i : Nat) := by simp [rng]
theorem place_turn {T U : Sl} {p m w : Int} {s6 s7 : Sl} (hm : 0 < m) (hm2 : m ≤ 1000) (hw : 2 ≤ w ∧ w ≤ 10) :
    ∃ t6, lb3_place_by [T, U, .d (.int (p % m)), .d (.int m), .d (.int w), .d (.int (p % w)), s6, s7] = .nx [T, U, .d (.int (p % lc m w)), .d (.int (lc m w)), .d (.int w), .d (.int (p % w)), t6, s7] := by
  obtain ⟨r, e⟩ := crt (p := p) hm (show 0 < w by omega)
  have key : lcL (bName 7) ct1_place_by ce2_place_by [T, U, .d (.int (p % m)), .d (.int m), .d (.int w), .d (.int (p % w)), s6, .no] (rng 0 w.toNat) = some ((p % lc m w :: r).map .int) := by
    rw [rng0, lcL_map (d := fun (i : Nat) => PyData.int (i : Nat)) (β := fun a => [T, U, .d (.int (p % m)), .d (.int m), .d (.int w), .d (.int (p % w)), s6, .d (.int (a : Nat))]) (T := fun a : Nat => decide ((p % m + m * (a : Int)) % w = p % w)) (F := fun a : Nat => .int (p % m + m * (a : Int)))]
    · rw [← e, List.map_map]
      rfl
    · intro a ha
      have hwp : 0 < w := by omega
      have ha' := List.mem_range.mp ha
      have hc2 : -18446744073709551616 < m ∧ m < 18446744073709551616 ∨ -18446744073709551616 < (a : Int) ∧ (a : Int) < 18446744073709551616 := by omega
      refine ⟨rfl, ?_, fun _ => ?_⟩
      · simp only [ct1_place_by, e2, bnm, mulD, addD, modD, R.bind, R.of, List.getElem?_cons_zero, List.getElem?_cons_succ, hc2, if_true, hwp, eqD_int]
      · simp only [ce2_place_by, e2, bnm, mulD, addD, R.bind, R.of, List.getElem?_cons_zero, List.getElem?_cons_succ, hc2, if_true]
  have c1 : -1000000000 ≤ w ∧ w ≤ 1000000000 := by omega
  have h3 : (rng 0 w.toNat).length ≤ 1000000 := by simp [rng]; omega
  have hq := eqD_nil (p % lc m w :: r)
  rw [decide_eq_false (by simp)] at hq
  have hi : ixD (.list ((p % lc m w :: r).map .int)) (.int 0) = some (.int (p % lc m w)) := by
    have := ixL PyData.int (p % lc m w :: r) 0 (by simp)
    exact this
  refine ⟨.o ((p % lc m w :: r).map .int), ?_⟩
  rw [lb3_place_by, seq_nx (ρ' := [T, U, .d (.int (p % m)), .d (.int m), .d (.int w), .d (.int (p % w)), .o ((p % lc m w :: r).map .int), s7]) (by
      simp only [sSet, nO, lcE, rg1, bnm, R.bind, R.of, List.getElem?_cons_zero, List.getElem?_cons_succ, c1, and_self, if_true, h3, wip, List.set, key, R.out]),
    seq_nx (ρ' := [T, U, .d (.int (p % m)), .d (.int m), .d (.int w), .d (.int (p % w)), .o ((p % lc m w :: r).map .int), s7]) (by
      simp only [sIf, e2, bnm, lstE, cst, R.bind, R.of, List.getElem?_cons_zero, List.getElem?_cons_succ, List.length_nil, Nat.zero_le, if_true, hq, R.out, Bool.false_eq_true, if_false, sNil]),
    seq_nx (ρ' := [T, U, .d (.int (p % lc m w)), .d (.int m), .d (.int w), .d (.int (p % w)), .o ((p % lc m w :: r).map .int), s7]) (by
      simp only [sSet, nD, e2, bnm, cst, R.bind, R.of, List.getElem?_cons_zero, List.getElem?_cons_succ, hi, R.out, List.set])]
  simp [fnM0, fnM, sSeq, sIf, sRet, sRetN, sSet, sNil, sDrop, sPar, sPar3, sPar4, sUnp, sApp, sExt, sPut, sFrz, own, frz, nD, nO, nLst, e1, e2, nm, bnm, cst, bv, chE, andT, orT, notT, andV, orV, notV, ifE, cons', tupE, lstE, asB, M.call, ncall, lcall, flatR, flatD, Out.r, Out.s, R.bind, R.of, R.out, pickF, bName, bTup, bNames, itE, items, sFor, lcD, sBad, yes, m_size2 hm hm2 hw]
theorem place_loop {T U : Sl} {p : Int} : ∀ (ws : List Int) (m : Int) (s4 s5 s6 s7 : Sl), 0 < m → m * 10 ^ ws.length ≤ 1000 → (∀ w ∈ ws, 2 ≤ w ∧ w ≤ 10) → ∃ t3 t4 t5 t6 t7, forL (bTup [4, 5]) lb3_place_by ((ws.zip (ws.map fun w => p % w)).map fun x => PyData.tuple [.int x.1, .int x.2]) [T, U, .d (.int (p % m)), .d (.int m), s4, s5, s6, s7] = .nx [T, U, .d (.int (p % szf m ws)), t3, t4, t5, t6, t7]
  | [], m, s4, s5, s6, s7, _, _, _ => ⟨_, s4, s5, s6, s7, rfl⟩
  | w :: ws, m, s4, s5, s6, s7, h, hb, k => by
    have hw := k w (by simp)
    have p10 : (1 : Int) ≤ 10 ^ ws.length := by
      have : (0 : Int) < 10 ^ ws.length := Int.pow_pos (by omega)
      omega
    have hb' : m * 10 * 10 ^ ws.length ≤ 1000 := by
      rw [List.length_cons, Int.pow_succ', ← Int.mul_assoc] at hb
      exact hb
    have hm : m ≤ 1000 := by
      have : m * 10 * 1 ≤ m * 10 * 10 ^ ws.length := Int.mul_le_mul_of_nonneg_left p10 (by omega)
      omega
    have hl : lc m w ≤ m * 10 := Int.le_trans (lc_le h (by omega)) (Int.mul_le_mul_of_nonneg_left hw.2 (by omega))
    obtain ⟨t6, e6⟩ := place_turn (T := T) (U := U) (p := p) (s6 := s6) (s7 := s7) h hm hw
    obtain ⟨t3, t4, t5, t6', t7, e⟩ := place_loop (T := T) (U := U) (p := p) ws (lc m w) (.d (.int w)) (.d (.int (p % w))) t6 s7 (lc_pos h (by omega)) (Int.le_trans (Int.mul_le_mul_of_nonneg_right hl (by omega)) hb') fun v hv => k v (by simp [hv])
    refine ⟨t3, t4, t5, t6', t7, ?_⟩
    simp only [List.map_cons, List.zip_cons_cons, forL, bTup, bNames, List.set, e6]
    exact e
theorem Rd.of {ws : List Int} (h : Wh ws) (p : Int) : Rd ws (ws.map fun w => p % w) := by
  refine ⟨by simp, fun x hx => ?_⟩
  rw [List.zip_map_left, List.mem_map] at hx
  obtain ⟨⟨a, b⟩, hy, rfl⟩ := hx
  have hab : a = b := by
    obtain ⟨i, hi⟩ := List.mem_iff_getElem?.mp hy
    rw [List.getElem?_zip_eq_some] at hi
    rw [hi.1] at hi
    exact (Option.some.inj hi.2)
  subst hab
  have := h.r a (List.of_mem_zip hy).1
  exact ⟨Int.emod_nonneg p (by omega), Int.emod_lt_of_pos p (by omega)⟩
theorem m_place {ws : List Int} (h : Wh ws) (p : Int) : m_place_by [.tuple (ws.map .int), .tuple ((ws.map fun w => p % w).map .int)] = .rt (.int (p % szf 1 ws)) := by
  refine fn_rt rfl ?_
  generalize hT : PyData.tuple (ws.map .int) = T
  generalize hU : PyData.tuple ((ws.map fun w => p % w).map .int) = U
  show tl0_place_by [.d T, .d U, .no, .no, .no, .no, .no, .no] = _
  have h1 := m_lookw h
  have h2 := m_lookr h (Rd.of h p)
  rw [hT] at h1 h2
  rw [hU] at h2
  have hp : (10 : Int) ^ ws.length ≤ 1000 := by
    have := h.l3
    have : ws.length = 0 ∨ ws.length = 1 ∨ ws.length = 2 ∨ ws.length = 3 := by omega
    rcases this with e | e | e | e <;> rw [e] <;> decide
  obtain ⟨t3, t4, t5, t6, t7, e⟩ := place_loop (T := .d T) (U := .d U) (p := p) ws 1 .no .no .no .no (by omega) (by omega) h.r
  rw [tl0_place_by, seq_nx (ρ' := [.d T, .d U, .no, .no, .no, .no, .no, .no]) (by simp [fnM0, fnM, sSeq, sIf, sRet, sRetN, sSet, sNil, sDrop, sPar, sPar3, sPar4, sUnp, sApp, sExt, sPut, sFrz, own, frz, nD, nO, nLst, e1, e2, nm, bnm, cst, bv, chE, andT, orT, notT, andV, orV, notV, ifE, cons', tupE, lstE, asB, M.call, ncall, lcall, flatR, flatD, Out.r, Out.s, R.bind, R.of, R.out, pickF, bName, bTup, bNames, itE, items, sFor, lcD, sBad, yes, h1]), tl1_place_by, seq_nx (ρ' := [.d T, .d U, .no, .no, .no, .no, .no, .no]) (by simp [fnM0, fnM, sSeq, sIf, sRet, sRetN, sSet, sNil, sDrop, sPar, sPar3, sPar4, sUnp, sApp, sExt, sPut, sFrz, own, frz, nD, nO, nLst, e1, e2, nm, bnm, cst, bv, chE, andT, orT, notT, andV, orV, notV, ifE, cons', tupE, lstE, asB, M.call, ncall, lcall, flatR, flatD, Out.r, Out.s, R.bind, R.of, R.out, pickF, bName, bTup, bNames, itE, items, sFor, lcD, sBad, yes, h2]),
    tl2_place_by, seq_nx (ρ' := [.d T, .d U, .d (.int 0), .d (.int 1), .no, .no, .no, .no]) (by simp [fnM0, fnM, sSeq, sIf, sRet, sRetN, sSet, sNil, sDrop, sPar, sPar3, sPar4, sUnp, sApp, sExt, sPut, sFrz, own, frz, nD, nO, nLst, e1, e2, nm, bnm, cst, bv, chE, andT, orT, notT, andV, orV, notV, ifE, cons', tupE, lstE, asB, M.call, ncall, lcall, flatR, flatD, Out.r, Out.s, R.bind, R.of, R.out, pickF, bName, bTup, bNames, itE, items, sFor, lcD, sBad, yes]),
    tl3_place_by, seq_nx (ρ' := [.d T, .d U, .d (.int (p % szf 1 ws)), t3, t4, t5, t6, t7]) (by
      rw [Int.emod_one] at e
      simp only [sFor, zpE, nm, R.bind, List.getElem?_cons_zero, List.getElem?_cons_succ, ← hT, ← hU, zipD_map, R.out]
      rw [hT, hU]
      exact e)]
  simp [tl4_place_by, fnM0, fnM, sSeq, sIf, sRet, sRetN, sSet, sNil, sDrop, sPar, sPar3, sPar4, sUnp, sApp, sExt, sPut, sFrz, own, frz, nD, nO, nLst, e1, e2, nm, bnm, cst, bv, chE, andT, orT, notT, andV, orV, notV, ifE, cons', tupE, lstE, asB, M.call, ncall, lcall, flatR, flatD, Out.r, Out.s, R.bind, R.of, R.out, pickF, bName, bTup, bNames, itE, items, sFor, lcD, sBad, yes]
end G
namespace G
open M PySem
/-- how far two places are apart -/
def ap (w a b : Int) : Int := if (b - a) % w < (a - b) % w then (b - a) % w else (a - b) % w
theorem m_apart' {w a b : Int} (hw : 0 < w) : m_apart [.int w, .int a, .int b] = .rt (.int (ap w a b)) := by
  simp [m_apart, tl0_apart, fnM0, fnM, sSeq, sIf, sRet, sRetN, sSet, sNil, sDrop, sPar, sPar3, sPar4, sUnp, sApp, sExt, sPut, sFrz, own, frz, nD, nO, nLst, e1, e2, nm, bnm, cst, bv, chE, andT, orT, notT, andV, orV, notV, ifE, cons', tupE, lstE, asB, M.call, ncall, lcall, flatR, flatD, Out.r, Out.s, R.bind, R.of, R.out, pickF, bName, bTup, bNames, itE, items, sFor, lcD, sBad, yes, subD, modD, hw, minD, ap]
theorem ap_nn {w a b : Int} (hw : 0 < w) : 0 ≤ ap w a b := by
  unfold ap
  have h1 := Int.emod_nonneg (a - b) (by omega : w ≠ 0)
  have h2 := Int.emod_nonneg (b - a) (by omega : w ≠ 0)
  split <;> omega
theorem sub_mod (a b w : Int) : (a % w - b) % w = (a - b) % w := by
  refine emod_of_dvd_sub ?_
  have := dvd_of_emod (Int.emod_emod a w)
  rw [show a % w - b - (a - b) = a % w - a by omega]
  exact this
theorem mod_sub (a b w : Int) : (b - a % w) % w = (b - a) % w := by
  refine emod_of_dvd_sub ?_
  have := dvd_of_emod (Int.emod_emod a w)
  rw [show b - a % w - (b - a) = -(a % w - a) by omega]
  exact (Int.dvd_neg).mpr this
theorem ap_mod (w a b : Int) : ap w (a % w) b = ap w a b := by
  unfold ap
  rw [sub_mod, mod_sub]
theorem ap_mod2 (w a b : Int) : ap w a (b % w) = ap w a b := by
  unfold ap
  rw [sub_mod, mod_sub]
theorem emod_le_self {t w : Int} (ht : 0 ≤ t) (hw : 0 < w) : t % w ≤ t := by
  have h := Int.mul_ediv_add_emod t w
  have : 0 ≤ w * (t / w) := Int.mul_nonneg (by omega) (Int.ediv_nonneg ht (by omega))
  omega
theorem ap_of {w a b s t : Int} (hw : 0 < w) (h1 : -s ≤ t) (h2 : t ≤ s) (hd : w ∣ a - b - t) : ap w a b ≤ s := by
  unfold ap
  by_cases ht : 0 ≤ t
  · have e : (a - b) % w = t % w := emod_of_dvd_sub hd
    have := emod_le_self ht hw
    split <;> omega
  · have e : (b - a) % w = (-t) % w := emod_of_dvd_sub (by
      rw [show b - a - -t = -(a - b - t) by omega]
      exact (Int.dvd_neg).mpr hd)
    have := emod_le_self (show 0 ≤ -t by omega) hw
    split <;> omega
theorem of_ap {w a b s : Int} (hw : 0 < w) (h : ap w a b ≤ s) : ∃ t, -s ≤ t ∧ t ≤ s ∧ w ∣ a - b - t := by
  have n1 := Int.emod_nonneg (a - b) (by omega : w ≠ 0)
  have n2 := Int.emod_nonneg (b - a) (by omega : w ≠ 0)
  have d1 := dvd_of_emod (Int.emod_emod (a - b) w)
  have d2 := dvd_of_emod (Int.emod_emod (b - a) w)
  unfold ap at h
  split at h
  · refine ⟨-((b - a) % w), by omega, by omega, ?_⟩
    rw [show a - b - -((b - a) % w) = (b - a) % w - (b - a) by omega]
    exact d2
  · refine ⟨(a - b) % w, by omega, by omega, ?_⟩
    rw [show a - b - (a - b) % w = -((a - b) % w - (a - b)) by omega]
    exact (Int.dvd_neg).mpr d1
theorem ap_zero {w a b : Int} (hw : 0 < w) (h : ap w a b ≤ 0) : w ∣ a - b := by
  obtain ⟨t, h1, h2, h3⟩ := of_ap hw h
  have : t = 0 := by omega
  subst this
  simpa using h3
theorem ap_tri {w a c b s : Int} (hw : 0 < w) (h1 : ap w a b ≤ s) (h2 : ap w c b ≤ s) : ap w (a - c) 0 ≤ 2 * s := by
  obtain ⟨t, a1, a2, a3⟩ := of_ap hw h1
  obtain ⟨u, b1, b2, b3⟩ := of_ap hw h2
  refine ap_of (t := t - u) hw (by omega) (by omega) ?_
  rw [show a - c - 0 - (t - u) = (a - b - t) - (c - b - u) by omega]
  exact Int.dvd_sub a3 b3
/-! ### near -/
def nearB (l : List (Int × Int)) (p s : Int) : Bool := l.all fun x => decide (ap x.1 (p % x.1) x.2 ≤ s)
theorem cut1 {α : Type} (x : α) (xs : List α) : cutD (x :: xs) (some 1) none = xs := by
  unfold cutD
  have h1 : HT.sIx (x :: xs).length 0 (some 1) = 1 := sIx_mid (i := 1) (by simp)
  rw [h1]
  simp [HT.sIx]
theorem m_near1 {w0 g0 : Int} {wr gr : List Int} (hl : gr.length = wr.length) (hs : wr.length ≤ 10) (hw : ∀ w ∈ wr, 2 ≤ w ∧ w ≤ 10) {p s : Int} : m_is_near [.tuple ((w0 :: wr).map .int), .tuple ((g0 :: gr).map .int), .int p, .int s] = .rt (.bool (nearB (wr.zip gr) p s)) := by
  refine fn_rt rfl ?_
  have z : lzE (nm 0) (nm 1) [.d (.tuple ((w0 :: wr).map .int)), .d (.tuple ((g0 :: gr).map .int)), .d (.int p), .d (.int s), .no, .no, .no] = .ok (.list (((w0 :: wr).zip (g0 :: gr)).map fun x => PyData.tuple [.int x.1, .int x.2])) := by
    have : ((w0 :: wr).map PyData.int).length = ((g0 :: gr).map PyData.int).length := by simp [hl]
    simp only [lzE, nm, R.bind, List.getElem?_cons_zero, List.getElem?_cons_succ, this, if_true, zipD_map]
  generalize hT : PyData.tuple ((w0 :: wr).map .int) = T at *
  generalize hU : PyData.tuple ((g0 :: gr).map .int) = U at *
  show tl0_is_near [.d T, .d U, .d (.int p), .d (.int s), .no, .no, .no] = _
  rw [List.zip_cons_cons, List.map_cons] at z
  rw [tl0_is_near, seq_nx (ρ' := [.d T, .d U, .d (.int p), .d (.int s), .d (.list ((wr.zip gr).map fun x => PyData.tuple [.int x.1, .int x.2])), .no, .no]) (by
    simp only [sSet, nD, slE, z, e1, asI, cst, R.bind, R.of, slD, cut1, R.out, List.set])]
  have key : lcL (bTup [5, 6]) yes ce1_is_near [.d T, .d U, .d (.int p), .d (.int s), .d (.list ((wr.zip gr).map fun x => PyData.tuple [.int x.1, .int x.2])), .no, .no] ((wr.zip gr).map fun x => PyData.tuple [.int x.1, .int x.2]) = some (((wr.zip gr).map fun x => decide (ap x.1 (p % x.1) x.2 ≤ s)).map .bool) := by
    rw [lcL_all (d := fun x : Int × Int => PyData.tuple [.int x.1, .int x.2]) (β := fun x => [.d T, .d U, .d (.int p), .d (.int s), .d (.list ((wr.zip gr).map fun x => PyData.tuple [.int x.1, .int x.2])), .d (.int x.1), .d (.int x.2)]) (F := fun x => .bool (decide (ap x.1 (p % x.1) x.2 ≤ s)))]
    · rw [List.map_map]; rfl
    · intro x hx
      have hx' := hw x.1 (List.of_mem_zip hx).1
      have h0 : 0 < x.1 := by omega
      refine ⟨rfl, ?_⟩
      simp only [ce1_is_near, bv, e2, M.call, cons', nm, bnm, cst, modD, R.bind, R.of, List.getElem?_cons_zero, List.getElem?_cons_succ, h0, if_true, m_apart' h0, Out.r, leD]
  have h3 : ((wr.zip gr).map fun x => PyData.tuple [.int x.1, .int x.2]).length ≤ 1000000 := by simp; omega
  have hb : boolsOf (((wr.zip gr).map fun x => decide (ap x.1 (p % x.1) x.2 ≤ s)).map PyData.bool) = some ((wr.zip gr).map fun x => decide (ap x.1 (p % x.1) x.2 ≤ s)) := bools_map _
  simp only [tl1_is_near, sRet, e1, lcD, lcE, itE, items, nm, cst, cons', R.bind, R.of, List.getElem?_cons_zero, List.getElem?_cons_succ, h3, if_true, wip, List.set, key, allD, hb, Option.map, R.out]
  simp only [nearB, List.all_map]
  rfl
def plc (a b c : Int) : List Int := (List.range (rgN a b c)).map fun (i : Nat) => a + (i : Int) * c
theorem rngC_plc (a b c : Int) : rngC a c (rgN a b c) = (plc a b c).map .int := by simp [rngC, plc]
theorem plc_mem {a b c x : Int} (hc : 0 < c) : x ∈ plc a b c ↔ a ≤ x ∧ x < b ∧ c ∣ x - a := by
  unfold plc rgN
  constructor
  · intro h
    obtain ⟨i, hi, rfl⟩ := List.mem_map.mp h
    have hi := List.mem_range.mp hi
    split at hi
    · rename_i hlt
      have h0 : 0 ≤ (b - a - 1) / c := Int.ediv_nonneg (by omega) (by omega)
      have h1 : (i : Int) ≤ (b - a - 1) / c := by omega
      have h2 : (i : Int) * c ≤ (b - a - 1) / c * c := Int.mul_le_mul_of_nonneg_right h1 (by omega)
      have h3 : (b - a - 1) / c * c ≤ b - a - 1 := Int.ediv_mul_le _ (by omega)
      have h4 : 0 ≤ (i : Int) * c := Int.mul_nonneg (by omega) (by omega)
      refine ⟨by omega, by omega, ?_⟩
      rw [show a + (i : Int) * c - a = (i : Int) * c by omega]
      exact Int.dvd_mul_left _ _
    · omega
  · rintro ⟨h1, h2, k, h3⟩
    have hk : 0 ≤ k := by
      by_cases hk : 0 ≤ k
      · exact hk
      · have : c * k < 0 := Int.mul_neg_of_pos_of_neg hc (by omega)
        omega
    refine List.mem_map.mpr ⟨k.toNat, List.mem_range.mpr ?_, ?_⟩
    · rw [if_pos (by omega)]
      have h4 : k ≤ (b - a - 1) / c := Int.le_ediv_of_mul_le hc (by rw [Int.mul_comm]; omega)
      omega
    · rw [show ((k.toNat : Nat) : Int) = k by omega, Int.mul_comm]
      omega
theorem plc_sorted {a b c : Int} (hc : 0 < c) : (plc a b c).Pairwise (· < ·) := by
  unfold plc
  rw [List.pairwise_map]
  refine List.Pairwise.imp ?_ List.pairwise_lt_range
  intro i j h
  have : (i : Int) * c < (j : Int) * c := Int.mul_lt_mul_of_pos_right (by omega) hc
  omega
theorem plc_len {a b c : Int} (h0 : 0 ≤ a) (hb : b ≤ 1000) (hc : 0 < c) : (plc a b c).length ≤ 1000 := by
  unfold plc rgN
  simp
  split
  · rename_i h
    have : (b - a - 1) / c ≤ b - a - 1 := Int.ediv_le_self _ (by omega)
    omega
  · omega
/-- the places near readings -/
def nearL (w0 : Int) (wr : List Int) (g0 : Int) (gr : List Int) (s : Int) : List Int := (plc g0 (szf 1 (w0 :: wr)) w0).filter fun p => nearB (wr.zip gr) p s
theorem sz_le {ws : List Int} (h : Wh ws) : szf 1 ws ≤ 1000 := by
  have h1 := szf_le ws 1 (by omega) h.r
  have hp : (10 : Int) ^ ws.length ≤ 1000 := by
    have := h.l3
    have : ws.length = 0 ∨ ws.length = 1 ∨ ws.length = 2 ∨ ws.length = 3 := by omega
    rcases this with e | e | e | e <;> rw [e] <;> decide
  omega
theorem sz_pos {ws : List Int} (h : Wh ws) : 0 < szf 1 ws := szf_pos ws 1 (by omega) fun w hw => by have := h.r w hw; omega
theorem m_near' {w0 g0 : Int} {wr gr : List Int} (h : Wh (w0 :: wr)) (g : Rd (w0 :: wr) (g0 :: gr)) {s : Int} (hs : 0 ≤ s ∧ s ≤ 9) : m_near [.tuple ((w0 :: wr).map .int), .tuple ((g0 :: gr).map .int), .int s] = .rf ((nearL w0 wr g0 gr s).map .int) := by
  refine fn_rf rfl ?_
  have h1 := m_lookw h
  have h2 := m_lookr h g
  have h3 := m_size (ws := w0 :: wr) (by have := h.l3; omega) h.r
  have h4 := fun p => m_near1 (p := p) (w0 := w0) (g0 := g0) (wr := wr) (gr := gr) (s := s) (by have := g.len; simp at this; exact this) (by have := h.l3; simp at this; omega) (fun w hw => h.r w (by simp [hw]))
  have i1 : ixD (.tuple ((w0 :: wr).map .int)) (.int 0) = some (.int w0) := by
    have := ixT (w0 :: wr) 0 (by simp)
    exact this
  have i2 : ixD (.tuple ((g0 :: gr).map .int)) (.int 0) = some (.int g0) := by
    have := ixT (g0 :: gr) 0 (by simp)
    exact this
  have hw0 := h.r w0 (by simp)
  have hg0 := g.r (g0, w0) (by simp)
  have hsz := sz_le h
  have hsp := sz_pos h
  have c1 : -1000000000 ≤ g0 ∧ g0 ≤ 1000000000 ∧ -1000000000 ≤ szf 1 (w0 :: wr) ∧ szf 1 (w0 :: wr) ≤ 1000000000 ∧ 0 < w0 ∧ w0 ≤ 1000000000 := by
    simp only at hg0
    omega
  have hlen : ((plc g0 (szf 1 (w0 :: wr)) w0).map PyData.int).length ≤ 1000000 := by
    have := plc_len (a := g0) (b := szf 1 (w0 :: wr)) (c := w0) hg0.1 hsz (by omega)
    simp
    omega
  have hw := m_isw s 0 9
  rw [decide_eq_true hs.1, decide_eq_true hs.2] at hw
  unfold nearL
  generalize hT : PyData.tuple ((w0 :: wr).map .int) = T at *
  generalize hU : PyData.tuple ((g0 :: gr).map .int) = U at *
  generalize szf 1 (w0 :: wr) = Z at *
  show tl0_near [.d T, .d U, .d (.int s), .no] = _
  rw [tl0_near, seq_nx (ρ' := [.d T, .d U, .d (.int s), .no]) (by simp [fnM0, fnM, sSeq, sIf, sRet, sRetN, sSet, sNil, sDrop, sPar, sPar3, sPar4, sUnp, sApp, sExt, sPut, sFrz, own, frz, nD, nO, nLst, e1, e2, nm, bnm, cst, bv, chE, andT, orT, notT, andV, orV, notV, ifE, cons', tupE, lstE, asB, M.call, ncall, lcall, flatR, flatD, Out.r, Out.s, R.bind, R.of, R.out, pickF, bName, bTup, bNames, itE, items, sFor, lcD, sBad, yes, h1]), tl1_near, seq_nx (ρ' := [.d T, .d U, .d (.int s), .no]) (by simp [fnM0, fnM, sSeq, sIf, sRet, sRetN, sSet, sNil, sDrop, sPar, sPar3, sPar4, sUnp, sApp, sExt, sPut, sFrz, own, frz, nD, nO, nLst, e1, e2, nm, bnm, cst, bv, chE, andT, orT, notT, andV, orV, notV, ifE, cons', tupE, lstE, asB, M.call, ncall, lcall, flatR, flatD, Out.r, Out.s, R.bind, R.of, R.out, pickF, bName, bTup, bNames, itE, items, sFor, lcD, sBad, yes, h2]), tl2_near, seq_nx (ρ' := [.d T, .d U, .d (.int s), .no]) (by simp [fnM0, fnM, sSeq, sIf, sRet, sRetN, sSet, sNil, sDrop, sPar, sPar3, sPar4, sUnp, sApp, sExt, sPut, sFrz, own, frz, nD, nO, nLst, e1, e2, nm, bnm, cst, bv, chE, andT, orT, notT, andV, orV, notV, ifE, cons', tupE, lstE, asB, M.call, ncall, lcall, flatR, flatD, Out.r, Out.s, R.bind, R.of, R.out, pickF, bName, bTup, bNames, itE, items, sFor, lcD, sBad, yes, hw])]
  have key : lcL (bName 3) ct1_near (nm 3) [.d T, .d U, .d (.int s), .no] ((plc g0 Z w0).map .int) = some (((plc g0 Z w0).filter fun p => nearB (wr.zip gr) p s).map .int) := by
    rw [lcL_map (d := PyData.int) (β := fun p => [.d T, .d U, .d (.int s), .d (.int p)]) (T := fun p => nearB (wr.zip gr) p s) (F := fun p => .int p)]
    intro p _
    refine ⟨rfl, ?_, fun _ => rfl⟩
    simp only [ct1_near, e1, M.call, cons', nm, cst, R.bind, R.of, List.getElem?_cons_zero, List.getElem?_cons_succ, h4, Out.r, asB]
  simp only [tl3_near, sRetN, nO, lcE, rg3, e2, bnm, nm, cst, cons', M.call, i1, i2, h3, Out.r, R.bind, R.of, List.getElem?_cons_zero, List.getElem?_cons_succ, c1, and_self, if_true, rngC_plc, hlen, wip, List.set, key, R.out]
/-! ### most_slack -/
def far (wr : List Int) (p : Int) : Int := maxL (wr.map fun w => ap w (p % w) 0)
def msf (wr : List Int) : Int → List Int → Int
  | m, [] => m
  | m, p :: ps => msf wr (if (far wr p - 1) / 2 < m then (far wr p - 1) / 2 else m) ps
theorem msf_le (wr : List Int) : ∀ (ps : List Int) (m : Int), msf wr m ps ≤ m ∧ ∀ p ∈ ps, msf wr m ps ≤ (far wr p - 1) / 2
  | [], m => ⟨Int.le_refl m, fun p hp => by cases hp⟩
  | q :: ps, m => by
    obtain ⟨h1, h2⟩ := msf_le wr ps (if (far wr q - 1) / 2 < m then (far wr q - 1) / 2 else m)
    unfold msf
    refine ⟨by split at h1 <;> split <;> omega, fun p hp => ?_⟩
    rcases List.mem_cons.mp hp with rfl | hp
    · split at h1 <;> split <;> omega
    · exact h2 p hp
theorem most_turn {w0 : Int} {wr : List Int} (hne : wr ≠ []) (hs : wr.length ≤ 10) (hw : ∀ w ∈ wr, 2 ≤ w ∧ w ≤ 10) {m p : Int} {s3 s4 : Sl} :
    lb2_most_slack [.d (.tuple ((w0 :: wr).map .int)), .d (.int m), .d (.int p), s3, s4] = .nx [.d (.tuple ((w0 :: wr).map .int)), .d (.int (if (far wr p - 1) / 2 < m then (far wr p - 1) / 2 else m)), .d (.int p), .d (.int (far wr p)), s4] := by
  have hsl : slD (.tuple ((w0 :: wr).map .int)) (some 1) none = some (.tuple (wr.map .int)) := by
    rw [List.map_cons]
    simp only [slD, cut1]
  generalize hT : PyData.tuple ((w0 :: wr).map .int) = T at *
  have key : lcL (bName 4) yes ce1_most_slack [.d T, .d (.int m), .d (.int p), s3, .no] (wr.map .int) = some ((wr.map fun w => ap w (p % w) 0).map .int) := by
    rw [lcL_all (d := PyData.int) (β := fun w => [.d T, .d (.int m), .d (.int p), s3, .d (.int w)]) (F := fun w => .int (ap w (p % w) 0))]
    · rw [List.map_map]; rfl
    · intro w hx
      have hx' := hw w hx
      have h0 : 0 < w := by omega
      refine ⟨rfl, ?_⟩
      simp only [ce1_most_slack, e2, M.call, cons', nm, bnm, cst, modD, R.bind, R.of, List.getElem?_cons_zero, List.getElem?_cons_succ, h0, if_true, m_apart' h0, Out.r]
  have h3 : (wr.map PyData.int).length ≤ 1000000 := by simp; omega
  have hmx : maxD [.list ((wr.map fun w => ap w (p % w) 0).map .int)] = some (.int (far wr p)) := by
    unfold far
    cases hq : wr.map fun w => ap w (p % w) 0 with
    | nil => simp at hq; exact absurd hq hne
    | cons y ys => simp only [maxD, ints_map]
  rw [lb2_most_slack, seq_nx (ρ' := [.d T, .d (.int m), .d (.int p), .d (.int (far wr p)), s4]) (by
    simp only [sSet, nD, e1, lcD, lcE, itE, items, slE, asI, nm, bnm, cst, cons', R.bind, R.of, List.getElem?_cons_zero, List.getElem?_cons_succ, hsl, h3, if_true, wip, List.set, key, hmx, R.out])]
  simp [fnM0, fnM, sSeq, sIf, sRet, sRetN, sSet, sNil, sDrop, sPar, sPar3, sPar4, sUnp, sApp, sExt, sPut, sFrz, own, frz, nD, nO, nLst, e1, e2, nm, bnm, cst, bv, chE, andT, orT, notT, andV, orV, notV, ifE, cons', tupE, lstE, asB, M.call, ncall, lcall, flatR, flatD, Out.r, Out.s, R.bind, R.of, R.out, pickF, bName, bTup, bNames, itE, items, sFor, lcD, sBad, yes, subD, fdivD, minD]
theorem most_loop {w0 : Int} {wr : List Int} (hne : wr ≠ []) (hs : wr.length ≤ 10) (hw : ∀ w ∈ wr, 2 ≤ w ∧ w ≤ 10) : ∀ (ps : List Int) (m : Int) (s2 s3 s4 : Sl), ∃ t2 t3, forL (bName 2) lb2_most_slack (ps.map .int) [.d (.tuple ((w0 :: wr).map .int)), .d (.int m), s2, s3, s4] = .nx [.d (.tuple ((w0 :: wr).map .int)), .d (.int (msf wr m ps)), t2, t3, s4]
  | [], m, s2, s3, s4 => ⟨s2, s3, rfl⟩
  | p :: ps, m, s2, s3, s4 => by
    obtain ⟨t2, t3, e⟩ := most_loop (w0 := w0) hne hs hw ps (if (far wr p - 1) / 2 < m then (far wr p - 1) / 2 else m) (.d (.int p)) (.d (.int (far wr p))) s4
    refine ⟨t2, t3, ?_⟩
    rw [List.map_cons, forL]
    simp only [bName, List.set, most_turn (w0 := w0) hne hs hw (s3 := s3) (s4 := s4)]
    exact e
theorem sz_one {w0 : Int} (h : 0 < w0) : szf 1 [w0] = w0 := by
  show lc 1 w0 = w0
  have h1 := lc_dvd (a := 1) (b := w0) (m := w0) (Int.one_dvd w0) (Int.dvd_refl w0)
  have h2 := lc_r 1 w0
  have := lc_pos (a := 1) (b := w0) (by omega) h
  exact Int.dvd_antisymm (by omega) (by omega) h1 h2
theorem m_most {w0 : Int} {wr : List Int} (h : Wh (w0 :: wr)) : m_most_slack [.tuple ((w0 :: wr).map .int)] = .rt (.int (msf wr 9 (plc w0 (szf 1 (w0 :: wr)) w0))) := by
  refine fn_rt rfl ?_
  have h1 := m_lookw h
  have h3 := m_size (ws := w0 :: wr) (by have := h.l3; omega) h.r
  have i1 : ixD (.tuple ((w0 :: wr).map .int)) (.int 0) = some (.int w0) := by
    have := ixT (w0 :: wr) 0 (by simp)
    exact this
  have hw0 := h.r w0 (by simp)
  have hsz := sz_le h
  have hsp := sz_pos h
  have c1 : -1000000000 ≤ w0 ∧ w0 ≤ 1000000000 ∧ -1000000000 ≤ szf 1 (w0 :: wr) ∧ szf 1 (w0 :: wr) ≤ 1000000000 ∧ 0 < w0 ∧ w0 ≤ 1000000000 := by omega
  have hloop : ∃ t2 t3, forL (bName 2) lb2_most_slack ((plc w0 (szf 1 (w0 :: wr)) w0).map .int) [.d (.tuple ((w0 :: wr).map .int)), .d (.int 9), .no, .no, .no] = .nx [.d (.tuple ((w0 :: wr).map .int)), .d (.int (msf wr 9 (plc w0 (szf 1 (w0 :: wr)) w0))), t2, t3, .no] := by
    by_cases hne : wr = []
    · subst hne
      have : plc w0 (szf 1 [w0]) w0 = [] := by
        rw [sz_one (by omega)]
        simp [plc, rgN]
      rw [this]
      exact ⟨.no, .no, rfl⟩
    · exact most_loop hne (by have := h.l3; simp at this; omega) (fun w hw => h.r w (by simp [hw])) _ 9 .no .no .no
  obtain ⟨t2, t3, e⟩ := hloop
  generalize hT : PyData.tuple ((w0 :: wr).map .int) = T at *
  generalize szf 1 (w0 :: wr) = Z at *
  show tl0_most_slack [.d T, .no, .no, .no, .no] = _
  rw [tl0_most_slack, seq_nx (ρ' := [.d T, .no, .no, .no, .no]) (by simp [fnM0, fnM, sSeq, sIf, sRet, sRetN, sSet, sNil, sDrop, sPar, sPar3, sPar4, sUnp, sApp, sExt, sPut, sFrz, own, frz, nD, nO, nLst, e1, e2, nm, bnm, cst, bv, chE, andT, orT, notT, andV, orV, notV, ifE, cons', tupE, lstE, asB, M.call, ncall, lcall, flatR, flatD, Out.r, Out.s, R.bind, R.of, R.out, pickF, bName, bTup, bNames, itE, items, sFor, lcD, sBad, yes, h1]), tl1_most_slack, seq_nx (ρ' := [.d T, .d (.int 9), .no, .no, .no]) (by simp [fnM0, fnM, sSeq, sIf, sRet, sRetN, sSet, sNil, sDrop, sPar, sPar3, sPar4, sUnp, sApp, sExt, sPut, sFrz, own, frz, nD, nO, nLst, e1, e2, nm, bnm, cst, bv, chE, andT, orT, notT, andV, orV, notV, ifE, cons', tupE, lstE, asB, M.call, ncall, lcall, flatR, flatD, Out.r, Out.s, R.bind, R.of, R.out, pickF, bName, bTup, bNames, itE, items, sFor, lcD, sBad, yes]),
    tl2_most_slack, seq_nx (ρ' := [.d T, .d (.int (msf wr 9 (plc w0 Z w0))), t2, t3, .no]) (by
      simp only [sFor, rg3, e2, bnm, nm, cst, cons', M.call, i1, h3, Out.r, R.bind, R.of, List.getElem?_cons_zero, List.getElem?_cons_succ, c1, and_self, if_true, rngC_plc, R.out]
      exact e)]
  simp [tl3_most_slack, fnM0, fnM, sSeq, sIf, sRet, sRetN, sSet, sNil, sDrop, sPar, sPar3, sPar4, sUnp, sApp, sExt, sPut, sFrz, own, frz, nD, nO, nLst, e1, e2, nm, bnm, cst, bv, chE, andT, orT, notT, andV, orV, notV, ifE, cons', tupE, lstE, asB, M.call, ncall, lcall, flatR, flatD, Out.r, Out.s, R.bind, R.of, R.out, pickF, bName, bTup, bNames, itE, items, sFor, lcD, sBad, yes]
end G
namespace G
open M PySem
/-! ### how many there are -/
theorem part_len (f : Int → Int) : ∀ (R l : List Int), (∀ x ∈ l, f x ∈ R) → l.length ≤ (R.map fun r => (l.filter fun x => decide (f x = r)).length).sum
  | [], l, h => by
    cases l with
    | nil => simp
    | cons x l => exact absurd (h x (by simp)) (by simp)
  | r :: R, l, h => by
    have ih := part_len f R (l.filter fun x => !decide (f x = r)) (fun x hx => by
      rw [List.mem_filter] at hx
      rcases List.mem_cons.mp (h x hx.1) with e | e
      · simp [e] at hx
      · exact e)
    have e : l.length = (l.filter fun x => decide (f x = r)).length + (l.filter fun x => !decide (f x = r)).length := by
      clear h ih
      induction l with
      | nil => rfl
      | cons x l ih =>
        simp only [List.filter_cons, List.length_cons]
        by_cases c : f x = r <;> simp [c, ih] <;> omega
    have m : ∀ R : List Int, (R.map fun r' => ((l.filter fun x => !decide (f x = r)).filter fun x => decide (f x = r')).length).sum ≤ (R.map fun r' => (l.filter fun x => decide (f x = r')).length).sum := fun R => by
      induction R with
      | nil => simp
      | cons a R ih =>
        simp only [List.map_cons, List.sum_cons]
        have : ((l.filter fun x => !decide (f x = r)).filter fun x => decide (f x = a)).length ≤ (l.filter fun x => decide (f x = a)).length := ((List.filter_sublist).filter _).length_le
        omega
    simp only [List.map_cons, List.sum_cons]
    have := m R
    omega
theorem sum_le {B : Nat} {g : Int → Nat} : ∀ R : List Int, (∀ r ∈ R, g r ≤ B) → (R.map g).sum ≤ R.length * B
  | [], _ => by simp
  | r :: R, h => by
    have := sum_le R fun x hx => h x (by simp [hx])
    have := h r (by simp)
    simp only [List.map_cons, List.sum_cons, List.length_cons, Nat.add_mul]
    omega
def resd (w g : Int) : List Int := ((List.range w.toNat).map fun (i : Nat) => (i : Int)).filter fun r => decide (ap w r g ≤ 3)
theorem resd_tab : ∀ w ∈ List.range 11, ∀ g ∈ List.range 11, (resd (w : Nat) (g : Nat)).length ≤ 7 := by decide +kernel
theorem resd_len {w g : Int} (hw : 2 ≤ w ∧ w ≤ 10) (hg : 0 ≤ g ∧ g < w) : (resd w g).length ≤ 7 := by
  have := resd_tab w.toNat (List.mem_range.mpr (by omega)) g.toNat (List.mem_range.mpr (by omega))
  rw [show ((w.toNat : Nat) : Int) = w by omega, show ((g.toNat : Nat) : Int) = g by omega] at this
  exact this
theorem resd_mem {w g x : Int} (hw : 0 < w) (h : ap w (x % w) g ≤ 3) : x % w ∈ resd w g := by
  unfold resd
  rw [List.mem_filter]
  have h1 := Int.emod_nonneg x (by omega : w ≠ 0)
  have h2 := Int.emod_lt_of_pos x hw
  exact ⟨List.mem_map.mpr ⟨(x % w).toNat, List.mem_range.mpr (by omega), by omega⟩, by simpa using h⟩
theorem few : ∀ (lp : List (Int × Int)) (l : List Int), l.Nodup → (∀ q ∈ lp, (2 ≤ q.1 ∧ q.1 ≤ 10) ∧ 0 ≤ q.2 ∧ q.2 < q.1) → (∀ x ∈ l, ∀ q ∈ lp, ap q.1 (x % q.1) q.2 ≤ 3) → (∀ x ∈ l, ∀ y ∈ l, (∀ q ∈ lp, x % q.1 = y % q.1) → x = y) → l.length ≤ 7 ^ lp.length
  | [], l, hn, _, _, hu => by
    cases l with
    | nil => simp
    | cons x l =>
      cases l with
      | nil => simp
      | cons y l =>
        have := hu x (by simp) y (by simp) (by simp)
        subst this
        exact absurd (List.nodup_cons.mp hn).1 (by simp)
  | q :: lp, l, hn, hq, ha, hu => by
    have hq0 := hq q (by simp)
    have h1 := part_len (fun x => x % q.1) (resd q.1 q.2) l fun x hx => resd_mem (by omega) (ha x hx q (by simp))
    have h2 : ∀ r ∈ resd q.1 q.2, (l.filter fun x => decide (x % q.1 = r)).length ≤ 7 ^ lp.length := fun r _ => by
      refine few lp _ (hn.filter _) (fun p hp => hq p (by simp [hp])) (fun x hx p hp => ha x ((List.mem_filter.mp hx).1) p (by simp [hp])) fun x hx y hy hxy => ?_
      rw [List.mem_filter] at hx hy
      simp only [decide_eq_true_eq] at hx hy
      refine hu x hx.1 y hy.1 fun p hp => ?_
      rcases List.mem_cons.mp hp with rfl | hp
      · rw [hx.2, hy.2]
      · exact hxy p hp
    have h3 := sum_le (resd q.1 q.2) h2
    have h4 := resd_len hq0.1 hq0.2
    have h5 : (resd q.1 q.2).length * 7 ^ lp.length ≤ 7 * 7 ^ lp.length := Nat.mul_le_mul_right _ h4
    rw [List.length_cons, Nat.pow_succ]
    omega
/-! ### the true place -/
theorem eq_of_mod {x y Z : Int} (hx : 0 ≤ x ∧ x < Z) (hy : 0 ≤ y ∧ y < Z) (h : Z ∣ x - y) : x = y := by
  have := emod_of_dvd_sub h
  rw [Int.emod_eq_of_lt hx.1 hx.2, Int.emod_eq_of_lt hy.1 hy.2] at this
  exact this
theorem nearB_iff {l : List (Int × Int)} {p s : Int} : nearB l p s = true ↔ ∀ x ∈ l, ap x.1 (p % x.1) x.2 ≤ s := by
  unfold nearB
  simp
theorem near_mem {w0 g0 s x : Int} {wr gr : List Int} (h : Wh (w0 :: wr)) (g : Rd (w0 :: wr) (g0 :: gr)) : x ∈ nearL w0 wr g0 gr s ↔ (0 ≤ x ∧ x < szf 1 (w0 :: wr)) ∧ x % w0 = g0 ∧ ∀ q ∈ wr.zip gr, ap q.1 (x % q.1) q.2 ≤ s := by
  have hw0 := h.r w0 (by simp)
  have hg0 : 0 ≤ g0 ∧ g0 < w0 := g.r (g0, w0) (by simp)
  unfold nearL
  rw [List.mem_filter, plc_mem (by omega), nearB_iff]
  constructor
  · rintro ⟨⟨a, b, c⟩, d⟩
    refine ⟨⟨by omega, b⟩, ?_, d⟩
    rw [emod_of_dvd_sub c, Int.emod_eq_of_lt hg0.1 hg0.2]
  · rintro ⟨⟨a, b⟩, c, d⟩
    refine ⟨⟨?_, b, ?_⟩, d⟩
    · rw [← c]
      exact emod_le_self a (by omega)
    · rw [← c]
      have := dvd_of_emod (Int.emod_emod x w0)
      rw [show x - x % w0 = -(x % w0 - x) by omega]
      exact (Int.dvd_neg).mpr this
theorem near_sorted {w0 g0 s : Int} {wr gr : List Int} (hw : 0 < w0) : (nearL w0 wr g0 gr s).Pairwise (· < ·) := (plc_sorted hw).filter _
theorem zip_fst {wr gr : List Int} (hl : gr.length = wr.length) {w : Int} (hw : w ∈ wr) : ∃ g, (w, g) ∈ wr.zip gr := by
  obtain ⟨i, hi⟩ := List.mem_iff_getElem?.mp hw
  have hlt : i < wr.length := (List.getElem?_eq_some_iff.mp hi).1
  have : gr[i]? = some (gr[i]'(by omega)) := List.getElem?_eq_getElem (by omega)
  exact ⟨_, List.mem_iff_getElem?.mpr ⟨i, List.getElem?_zip_eq_some.mpr ⟨hi, this⟩⟩⟩
/-- two places that all wheels tell alike are one -/
theorem one_place {w0 x y : Int} {wr gr : List Int} (hl : gr.length = wr.length) (hx : 0 ≤ x ∧ x < szf 1 (w0 :: wr)) (hy : 0 ≤ y ∧ y < szf 1 (w0 :: wr)) (h0 : x % w0 = y % w0) (hr : ∀ q ∈ wr.zip gr, x % q.1 = y % q.1) : x = y := by
  refine eq_of_mod hx hy (szf_dvd _ 1 _ (Int.one_dvd _) fun w hw => ?_)
  rcases List.mem_cons.mp hw with rfl | hw
  · exact dvd_of_emod h0
  · obtain ⟨g, hg⟩ := zip_fst hl hw
    exact dvd_of_emod (hr _ hg)
theorem Rd.zip {w0 g0 : Int} {wr gr : List Int} (g : Rd (w0 :: wr) (g0 :: gr)) (q : Int × Int) (hq : q ∈ wr.zip gr) : 0 ≤ q.2 ∧ q.2 < q.1 := by
  have : (q.2, q.1) ∈ gr.zip wr := by
    obtain ⟨i, hi⟩ := List.mem_iff_getElem?.mp hq
    obtain ⟨a, b⟩ := List.getElem?_zip_eq_some.mp hi
    exact List.mem_iff_getElem?.mpr ⟨i, List.getElem?_zip_eq_some.mpr ⟨b, a⟩⟩
  exact g.r (q.2, q.1) (by simp [this])
theorem near_few {w0 g0 s : Int} {wr gr : List Int} (h : Wh (w0 :: wr)) (g : Rd (w0 :: wr) (g0 :: gr)) (hs : s ≤ 3) : (nearL w0 wr g0 gr s).length < 64 := by
  have hl : gr.length = wr.length := by have := g.len; simpa using this
  have hw0 := h.r w0 (by simp)
  have := few (wr.zip gr) (nearL w0 wr g0 gr s) (lt_nodup (near_sorted (by omega))) (fun q hq => ⟨h.r q.1 (by simp [(List.of_mem_zip hq).1]), g.zip q hq⟩) (fun x hx q hq => by
    have := ((near_mem h g).mp hx).2.2 q hq
    omega) (fun x hx y hy hxy => by
    have a := (near_mem h g).mp hx
    have b := (near_mem h g).mp hy
    exact one_place hl a.1 b.1 (by rw [a.2.1, b.2.1]) hxy)
  have hk : (wr.zip gr).length ≤ 2 := by
    have := h.l3
    simp at this ⊢
    omega
  have : 7 ^ (wr.zip gr).length ≤ 7 ^ 2 := Nat.pow_le_pow_right (by decide) hk
  omega
theorem only_one {l : List Int} {p : Int} (hs : l.Pairwise (· < ·)) (hp : p ∈ l) (hu : ∀ q ∈ l, q = p) : l = [p] := by
  cases l with
  | nil => cases hp
  | cons a l =>
    have ha := hu a (by simp)
    subst ha
    cases l with
    | nil => rfl
    | cons b l =>
      have hb := hu b (by simp)
      subst hb
      have := (List.pairwise_cons.mp hs).1 b (by simp)
      omega
/-- readings that slipped by no more than s -/
def Slip (p s : Int) (lp : List (Int × Int)) : Prop := ∀ q ∈ lp, ∃ t, -s ≤ t ∧ t ≤ s ∧ q.2 = (p % q.1 + t) % q.1
theorem near_true {w0 s p : Int} {wr gr : List Int} (h : Wh (w0 :: wr)) (g : Rd (w0 :: wr) (p % w0 :: gr)) (hsl : Slip p s (wr.zip gr)) : p % szf 1 (w0 :: wr) ∈ nearL w0 wr (p % w0) gr s := by
  have hZ := sz_pos h
  have mm : ∀ w ∈ w0 :: wr, p % szf 1 (w0 :: wr) % w = p % w := fun w hw => Int.emod_emod_of_dvd p (szf_w _ 1 w hw)
  refine (near_mem h g).mpr ⟨⟨Int.emod_nonneg p (by omega), Int.emod_lt_of_pos p hZ⟩, mm w0 (by simp), fun q hq => ?_⟩
  have hq1 : q.1 ∈ wr := (List.of_mem_zip hq).1
  have hw := h.r q.1 (by simp [hq1])
  rw [mm q.1 (by simp [hq1])]
  obtain ⟨t, t1, t2, t3⟩ := hsl q hq
  rw [t3, ap_mod2]
  refine ap_of (t := -t) (by omega) (by omega) (by omega) ?_
  rw [show p % q.1 - (p % q.1 + t) - -t = 0 by omega]
  exact Int.dvd_zero _
theorem far_le {wr : List Int} {d b : Int} (hne : wr ≠ []) (h : ∀ w ∈ wr, ap w (d % w) 0 ≤ b) : far wr d ≤ b := by
  have hm := (maxL_mem (l := wr.map fun w => ap w (d % w) 0) (by simpa using hne)).1
  obtain ⟨w, hw, e⟩ := List.mem_map.mp hm
  unfold far
  rw [← e]
  exact h w hw
theorem near_alone {w0 s g0 P0 : Int} {wr gr : List Int} (h : Wh (w0 :: wr)) (g : Rd (w0 :: wr) (g0 :: gr)) (hP : P0 ∈ nearL w0 wr g0 gr s) (hm : s ≤ msf wr 9 (plc w0 (szf 1 (w0 :: wr)) w0)) : nearL w0 wr g0 gr s = [P0] := by
  have hw0 := h.r w0 (by simp)
  have hl : gr.length = wr.length := by have := g.len; simpa using this
  refine only_one (near_sorted (by omega)) hP fun x hx => ?_
  have key : ∀ x y, x ∈ nearL w0 wr g0 gr s → y ∈ nearL w0 wr g0 gr s → ¬ x < y := fun x y hx hy hlt => by
    obtain ⟨a1, a2, a3⟩ := (near_mem h g).mp hx
    obtain ⟨b1, b2, b3⟩ := (near_mem h g).mp hy
    have hd : w0 ∣ y - x := dvd_of_emod (by rw [a2, b2])
    have hle : w0 ≤ y - x := Int.le_of_dvd (by omega) hd
    have hmem : y - x ∈ plc w0 (szf 1 (w0 :: wr)) w0 := (plc_mem (by omega)).mpr ⟨hle, by omega, Int.dvd_sub hd (Int.dvd_refl w0)⟩
    by_cases hne : wr = []
    · subst hne
      rw [sz_one (by omega)] at a1 b1
      omega
    · have hf : far wr (y - x) ≤ 2 * s := far_le hne fun w hw => by
        obtain ⟨gw, hgw⟩ := zip_fst hl hw
        have hww := h.r w (by simp [hw])
        have e1' := b3 (w, gw) hgw
        have e2' := a3 (w, gw) hgw
        rw [ap_mod] at e1' e2' ⊢
        exact ap_tri (by omega) e1' e2'
      have := (msf_le wr (plc w0 (szf 1 (w0 :: wr)) w0) 9).2 _ hmem
      omega
  have k1 := key x P0 hx hP
  have k2 := key P0 x hP hx
  omega
theorem near_zero {w0 p : Int} {wr : List Int} (h : Wh (w0 :: wr)) : nearL w0 wr (p % w0) (wr.map fun w => p % w) 0 = [p % szf 1 (w0 :: wr)] := by
  have g : Rd (w0 :: wr) (p % w0 :: wr.map fun w => p % w) := Rd.of h p
  have hw0 := h.r w0 (by simp)
  have hsl : Slip p 0 (wr.zip (wr.map fun w => p % w)) := fun q hq => by
    refine ⟨0, by omega, by omega, ?_⟩
    obtain ⟨i, hi⟩ := List.mem_iff_getElem?.mp hq
    obtain ⟨a, b⟩ := List.getElem?_zip_eq_some.mp hi
    rw [List.getElem?_map, a] at b
    have b := Option.some.inj b
    rw [← b]
    simp
  have hp := near_true (s := 0) h g hsl
  refine only_one (near_sorted (by omega)) hp fun x hx => ?_
  obtain ⟨a1, a2, a3⟩ := (near_mem h g).mp hx
  obtain ⟨b1, b2, b3⟩ := (near_mem h g).mp hp
  refine one_place (gr := wr.map fun w => p % w) (by simp) a1 b1 (by rw [a2, b2]) fun q hq => ?_
  have hww := h.r q.1 (by simp [(List.of_mem_zip hq).1])
  have e1' := ap_zero (by omega) (a3 q hq)
  have e2' := ap_zero (by omega) (b3 q hq)
  have := Int.dvd_sub e1' e2'
  rw [show x % q.1 - q.2 - (p % szf 1 (w0 :: wr) % q.1 - q.2) = x % q.1 - p % szf 1 (w0 :: wr) % q.1 by omega] at this
  have := emod_of_dvd_sub this
  rw [Int.emod_emod, Int.emod_emod] at this
  exact this
theorem sort_self {l : List Int} (hs : l.Pairwise (· < ·)) : sortI (Mset.uniq l) = l := by
  refine sorted_uniq ?_ (sortI_sorted _) (lt_le hs)
  refine (sortI_perm _).trans ((List.perm_ext_iff_of_nodup (Mset.uniq_nodup l) (lt_nodup hs)).mpr fun j => ?_)
  exact Mset.mem_uniq
end G
namespace G
open M PySem
theorem in_ints (x : Int) (l : List Int) : inD (.int x) (.list (l.map .int)) = some (decide (x ∈ l)) := by
  simp only [inD]
  rw [shaped_int, shaped_ints, if_pos (by rfl), List.any_map]
  congr 1
  rw [Bool.eq_iff_iff, List.any_eq_true, decide_eq_true_iff]
  simp [PyData.eqv]
theorem m_whl {ws : List Int} (h : Wh ws) : m_whole [.tuple (ws.map .int)] = .rt (.int (szf 1 ws)) := by
  refine fn_rt rfl ?_
  have h1 := m_lookw h
  have h3 := m_size (ws := ws) (by have := h.l3; omega) h.r
  generalize PyData.tuple (ws.map .int) = T at *
  show tl0_whole [.d T] = _
  rw [tl0_whole, seq_nx (ρ' := [.d T]) (by simp [fnM0, fnM, sSeq, sIf, sRet, sRetN, sSet, sNil, sDrop, sPar, sPar3, sPar4, sUnp, sApp, sExt, sPut, sFrz, own, frz, nD, nO, nLst, e1, e2, nm, bnm, cst, bv, chE, andT, orT, notT, andV, orV, notV, ifE, cons', tupE, lstE, asB, M.call, ncall, lcall, flatR, flatD, Out.r, Out.s, R.bind, R.of, R.out, pickF, bName, bTup, bNames, itE, items, sFor, lcD, sBad, yes, h1])]
  simp [tl1_whole, fnM0, fnM, sSeq, sIf, sRet, sRetN, sSet, sNil, sDrop, sPar, sPar3, sPar4, sUnp, sApp, sExt, sPut, sFrz, own, frz, nD, nO, nLst, e1, e2, nm, bnm, cst, bv, chE, andT, orT, notT, andV, orV, notV, ifE, cons', tupE, lstE, asB, M.call, ncall, lcall, flatR, flatD, Out.r, Out.s, R.bind, R.of, R.out, pickF, bName, bTup, bNames, itE, items, sFor, lcD, sBad, yes, h3]
theorem rng_succ' (lo : Int) (n : Nat) : rng lo (n + 1) = .int lo :: rng (lo + 1) n := by
  unfold rng
  rw [List.range_succ_eq_map, List.map_cons, List.map_map]
  congr 1
  · simp
  · refine List.map_congr_left fun i _ => ?_
    show PyData.int (lo + ((i + 1 : Nat) : Int)) = _
    congr 1
    omega
theorem slip_turn {P : Int → Int → Int} {T U : D} {s3 s7 s8 s9 s10 s11 s12 s13 : Sl} {s w a k : Int} {acc : List D} (hs : 0 ≤ s) (hw : 0 < w) (hk : 0 ≤ k) (ix1 : ixD T (.int k) = some (.int w)) (ix2 : ixD U (.int k) = some (.int a)) (hl : acc.length < 1000000) :
    lb3_law P [.d SCR, .d T, .d U, s3, .d (.int s), .o acc, .d (.int k), s7, s8, s9, s10, s11, s12, s13] = .nx [.d SCR, .d T, .d U, s3, .d (.int s), .o (acc ++ [.int ((a + P (10 + k) (2 * s + 1) - s) % w)]), .d (.int k), s7, s8, s9, s10, s11, s12, s13] := by
  have hc : -18446744073709551616 < (2 : Int) ∧ (2 : Int) < 18446744073709551616 ∨ -18446744073709551616 < s ∧ s < 18446744073709551616 := .inl (by decide)
  have hp : 0 ≤ 10 + k ∧ 0 < 2 * s + 1 := by omega
  simp only [lb3_law, sApp, List.getElem?_cons_zero, List.getElem?_cons_succ, e2, M.call, cons', nm, bnm, cst, pickF, SCR, R.bind, R.of, Out.r, ix1, ix2, addD, mulD, subD, modD, hc, hw, hp, and_self, if_true, R.out, hl, List.set]
theorem rg1_of {f : Rho → R D} {ρ : Rho} {n : Nat} (h : f ρ = .ok (.int (n : Int))) (hn : n ≤ 1000000) : rg1 f ρ = .ok (rng 0 n) := by
  have c : (-1000000000 : Int) ≤ (n : Int) ∧ (n : Int) ≤ 1000000000 := by omega
  unfold rg1
  rw [h]
  show (if -1000000000 ≤ (n : Int) ∧ (n : Int) ≤ 1000000000 then R.ok (rng 0 (n : Int).toNat) else .bad) = _
  rw [if_pos c, Int.toNat_natCast]
theorem rg2_of {f : Rho → R D} {ρ : Rho} {n : Nat} (h : f ρ = .ok (.int (n : Int))) (hn : n ≤ 1000000) : rg2 (cst (.int 1)) f ρ = .ok (rng 1 ((n : Int) - 1).toNat) := by
  have c : (-1000000000 : Int) ≤ 1 ∧ (1 : Int) ≤ 1000000000 ∧ (-1000000000 : Int) ≤ (n : Int) ∧ (n : Int) ≤ 1000000000 := by omega
  unfold rg2
  rw [h]
  show (if (-1000000000 : Int) ≤ 1 ∧ (1 : Int) ≤ 1000000000 ∧ -1000000000 ≤ (n : Int) ∧ (n : Int) ≤ 1000000000 then R.ok (rng 1 ((n : Int) - 1).toNat) else .bad) = _
  rw [if_pos c]
theorem mid_get (pre rest : List Int) (w : Int) : (pre ++ w :: rest).getD pre.length 0 = w := by
  simp [List.getD_eq_getElem?_getD]
theorem slip_loop {P : Int → Int → Int} (hP : Dr P) {T U : D} {s3 s7 s8 s9 s10 s11 s12 s13 : Sl} {p s : Int} (hs : 0 ≤ s) : ∀ (rest pre : List Int) (acc : List D) (s6 : Sl), acc.length ≤ 10 → pre.length + rest.length ≤ 3 → (∀ w ∈ rest, 2 ≤ w ∧ w ≤ 10) → T = .tuple ((pre ++ rest).map .int) → U = .tuple (((pre ++ rest).map fun w => p % w).map .int) →
    acc.length + rest.length ≤ 10 → ∃ (gr : List Int) (t6 : Sl), gr.length = rest.length ∧ Slip p s (rest.zip gr) ∧ (∀ q ∈ rest.zip gr, 0 ≤ q.2 ∧ q.2 < q.1) ∧
    forL (bName 6) (lb3_law P) (rng pre.length rest.length) [.d SCR, .d T, .d U, s3, .d (.int s), .o acc, s6, s7, s8, s9, s10, s11, s12, s13] = .nx [.d SCR, .d T, .d U, s3, .d (.int s), .o (acc ++ gr.map .int), t6, s7, s8, s9, s10, s11, s12, s13]
  | [], pre, acc, s6, _, _, _, _, _, _ => ⟨[], s6, rfl, fun q hq => by simp at hq, fun q hq => by simp at hq, by simp [rng, forL]⟩
  | w :: rest, pre, acc, s6, h1, h2, h3, h4, h5, h6 => by
    have hw := h3 w (by simp)
    have ix1 : ixD T (.int (pre.length : Nat)) = some (.int w) := by
      rw [h4, ixT _ pre.length (by simp), mid_get]
    have ix2 : ixD U (.int (pre.length : Nat)) = some (.int (p % w)) := by
      rw [h5, List.map_append, List.map_cons, ixT _ pre.length (by simp)]
      have := mid_get (pre.map fun w => p % w) (rest.map fun w => p % w) (p % w)
      rw [List.length_map] at this
      rw [this]
    have q0 := hP.lo (10 + (pre.length : Nat)) (2 * s + 1) (by omega)
    have q1 := hP.hi (10 + (pre.length : Nat)) (2 * s + 1) (by omega)
    have e := slip_turn (P := P) (T := T) (U := U) (s3 := s3) (s7 := s7) (s8 := s8) (s9 := s9) (s10 := s10) (s11 := s11) (s12 := s12) (s13 := s13) (acc := acc) hs (by omega : 0 < w) (by omega) ix1 ix2 (by omega)
    generalize hx : P (10 + ((pre.length : Nat) : Int)) (2 * s + 1) = x at *
    simp only [List.length_cons] at h2 h6
    obtain ⟨gr, t6, g1, g2, g3, g4⟩ := slip_loop hP (T := T) (U := U) (s3 := s3) (s7 := s7) (s8 := s8) (s9 := s9) (s10 := s10) (s11 := s11) (s12 := s12) (s13 := s13) (p := p) hs rest (pre ++ [w]) (acc ++ [.int ((p % w + x - s) % w)]) (.d (.int (pre.length : Nat))) (by simp; omega) (by simp; omega) (fun v hv => h3 v (by simp [hv])) (by rw [h4]; simp) (by rw [h5]; simp) (by simp; omega)
    refine ⟨(p % w + x - s) % w :: gr, t6, by simp [g1], fun q hq => ?_, fun q hq => ?_, ?_⟩
    · rw [List.zip_cons_cons] at hq
      rcases List.mem_cons.mp hq with rfl | hq
      · exact ⟨x - s, by omega, by omega, by rw [show p % w + (x - s) = p % w + x - s by omega]⟩
      · exact g2 q hq
    · rw [List.zip_cons_cons] at hq
      rcases List.mem_cons.mp hq with rfl | hq
      · exact ⟨Int.emod_nonneg _ (by omega), Int.emod_lt_of_pos _ (by omega)⟩
      · exact g3 q hq
    · rw [List.length_cons, rng_succ', forL]
      simp only [bName, List.set, e]
      have hn : ((pre ++ [w]).length : Int) = (pre.length : Int) + 1 := by simp
      rw [hn] at g4
      rw [g4]
      simp
theorem far_turn {S T U : D} {s2 s3 s4 s7 s8 s9 s10 s13 : Sl} {L acc : List D} {w a g k : Int} (hw : 0 < w) (ix1 : ixD T (.int k) = some (.int w)) (ix2 : ixD U (.int k) = some (.int a)) (ix3 : ixD (.list L) (.int k) = some (.int g)) (hl : acc.length < 1000000) :
    lb4_law [.d S, .d T, s2, s3, s4, .o L, .d (.int k), s7, s8, s9, s10, .d U, .o acc, s13] = .nx [.d S, .d T, s2, s3, s4, .o L, .d (.int k), s7, s8, s9, s10, .d U, .o (acc ++ [.int (ap w a g)]), s13] := by
  simp only [lb4_law, sApp, List.getElem?_cons_zero, List.getElem?_cons_succ, e1, e2, cons', nm, bnm, cst, R.bind, R.of, ix1, ix2, ix3, subD, modD, hw, if_true, minD, R.out, hl, List.set, ap]
theorem far_loop {S T U : D} {s2 s3 s4 s7 s8 s9 s10 s13 : Sl} {L : List D} {x : Int} : ∀ (rest pre : List (Int × Int)) (acc : List D) (s6 : Sl), (∀ q ∈ rest, 0 < q.1) → T = .tuple (((pre ++ rest).map (·.1)).map .int) → U = .tuple (((pre ++ rest).map fun q => x % q.1).map .int) → L = ((pre ++ rest).map (·.2)).map .int → acc.length + rest.length ≤ 10 →
    ∃ t6, forL (bName 6) lb4_law (rng pre.length rest.length) [.d S, .d T, s2, s3, s4, .o L, s6, s7, s8, s9, s10, .d U, .o acc, s13] = .nx [.d S, .d T, s2, s3, s4, .o L, t6, s7, s8, s9, s10, .d U, .o (acc ++ (rest.map fun q => ap q.1 (x % q.1) q.2).map .int), s13]
  | [], pre, acc, s6, _, _, _, _, _ => ⟨s6, by simp [rng, forL]⟩
  | q :: rest, pre, acc, s6, h1, h2, h3, h4, h5 => by
    have hw := h1 q (by simp)
    have ix1 : ixD T (.int (pre.length : Nat)) = some (.int q.1) := by
      rw [h2, List.map_append, List.map_cons, ixT _ pre.length (by simp)]
      have := mid_get (pre.map (·.1)) (rest.map (·.1)) q.1
      rw [List.length_map] at this
      rw [this]
    have ix2 : ixD U (.int (pre.length : Nat)) = some (.int (x % q.1)) := by
      rw [h3, List.map_append, List.map_cons, ixT _ pre.length (by simp)]
      have := mid_get (pre.map fun q => x % q.1) (rest.map fun q => x % q.1) (x % q.1)
      rw [List.length_map] at this
      rw [this]
    have ix3 : ixD (.list L) (.int (pre.length : Nat)) = some (.int q.2) := by
      rw [h4, List.map_append, List.map_cons, ixL PyData.int _ pre.length (by simp)]
      congr 2
      simp
    simp only [List.length_cons] at h5
    have e := far_turn (S := S) (s2 := s2) (s3 := s3) (s4 := s4) (s7 := s7) (s8 := s8) (s9 := s9) (s10 := s10) (s13 := s13) (acc := acc) hw ix1 ix2 ix3 (by omega)
    obtain ⟨t6, g⟩ := far_loop (S := S) (T := T) (U := U) (s2 := s2) (s3 := s3) (s4 := s4) (s7 := s7) (s8 := s8) (s9 := s9) (s10 := s10) (s13 := s13) (L := L) (x := x) rest (pre ++ [q]) (acc ++ [.int (ap q.1 (x % q.1) q.2)]) (.d (.int (pre.length : Nat))) (fun r hr => h1 r (by simp [hr])) (by rw [h2]; simp) (by rw [h3]; simp) (by rw [h4]; simp) (by simp; omega)
    refine ⟨t6, ?_⟩
    rw [List.length_cons, rng_succ', forL]
    simp only [bName, List.set, e]
    have hn : ((pre ++ [q]).length : Int) = (pre.length : Int) + 1 := by simp
    rw [hn] at g
    rw [g]
    simp
theorem one_turn {w0 g0 x s : Int} {wr gr : List Int} {s2 s3 s6 s7 s9 s10 s11 s12 s13 : Sl} {S : D} (h : Wh (w0 :: wr)) (hl : gr.length = wr.length) (h0 : x % w0 = g0) (hr : ∀ q ∈ wr.zip gr, ap q.1 (x % q.1) q.2 ≤ s) (hs : 0 ≤ s) :
    ∃ t6 t11 t12, lb5_law [.d S, .d (.tuple ((w0 :: wr).map .int)), s2, s3, .d (.int s), .o ((g0 :: gr).map .int), s6, s7, .d (.int x), s9, s10, s11, s12, s13] = .nx [.d S, .d (.tuple ((w0 :: wr).map .int)), s2, s3, .d (.int s), .o ((g0 :: gr).map .int), t6, s7, .d (.int x), s9, s10, t11, t12, s13] := by
  have hrd := m_read h x
  have hw0 := h.r w0 (by simp)
  have hlen : lenD [.tuple ((w0 :: wr).map .int)] = some (.int ((w0 :: wr).length : Nat)) := by simp [lenD]
  have z1 : ((w0, g0) :: wr.zip gr).map (·.1) = w0 :: wr := by
    rw [List.map_cons, List.map_fst_zip (by omega)]
  have z2 : ((w0, g0) :: wr.zip gr).map (·.2) = g0 :: gr := by
    rw [List.map_cons, List.map_snd_zip (by omega)]
  have z3 : ((w0, g0) :: wr.zip gr).map (fun q => x % q.1) = (w0 :: wr).map fun w => x % w := by
    rw [← z1, List.map_map]
    rfl
  have hz : ((w0, g0) :: wr.zip gr).length = (w0 :: wr).length := by simp; omega
  obtain ⟨t6, e⟩ := far_loop (S := S) (T := .tuple ((w0 :: wr).map .int)) (U := .tuple (((w0 :: wr).map fun w => x % w).map .int)) (s2 := s2) (s3 := s3) (s4 := .d (.int s)) (s7 := s7) (s8 := .d (.int x)) (s9 := s9) (s10 := s10) (s13 := s13) (L := (g0 :: gr).map .int) (x := x) ((w0, g0) :: wr.zip gr) [] [] s6 (fun q hq => by
    rcases List.mem_cons.mp hq with rfl | hq
    · show 0 < w0
      omega
    · have := h.r q.1 (by simp [(List.of_mem_zip hq).1])
      omega) (by rw [List.nil_append, z1]) (by rw [List.nil_append, z3]) (by rw [List.nil_append, z2]) (by
    have := h.l3
    rw [hz]
    simp at this ⊢
    omega)
  rw [hz, List.nil_append] at e
  have ha0 : ap w0 (x % w0) g0 = 0 := by
    rw [h0]
    simp [ap]
  have hmx : ∀ y ∈ ((w0, g0) :: wr.zip gr).map (fun q => ap q.1 (x % q.1) q.2), y ≤ s := fun y hy => by
    obtain ⟨q, hq, rfl⟩ := List.mem_map.mp hy
    rcases List.mem_cons.mp hq with rfl | hq
    · show ap w0 (x % w0) g0 ≤ s
      omega
    · exact hr q hq
  have hM := hmx _ (maxL_mem (l := ((w0, g0) :: wr.zip gr).map (fun q => ap q.1 (x % q.1) q.2)) (by simp)).1
  have hF : ((w0, g0) :: wr.zip gr).map (fun q => ap q.1 (x % q.1) q.2) = 0 :: (wr.zip gr).map (fun q => ap q.1 (x % q.1) q.2) := by
    rw [List.map_cons]
    simp only [ha0]
  rw [hF] at e hM
  generalize (wr.zip gr).map (fun q => ap q.1 (x % q.1) q.2) = F at *
  have hl3 : (w0 :: wr).length ≤ 1000000 := by
    have := h.l3
    omega
  generalize (w0 :: wr).length = n at *
  have hmd : maxD [.list ((0 :: F).map .int)] = some (.int (maxL (0 :: F))) := by simp only [maxD, ints_map]
  have hi : ixD (.list ((0 :: F).map .int)) (.int 0) = some (.int 0) := by
    have := ixL PyData.int (0 :: F) 0 (by simp)
    exact this
  refine ⟨t6, .d (.tuple (((w0 :: wr).map fun w => x % w).map .int)), .o ((0 :: F).map .int), ?_⟩
  generalize hT : PyData.tuple ((w0 :: wr).map .int) = T at *
  generalize hU : PyData.tuple (((w0 :: wr).map fun w => x % w).map .int) = U at *
  generalize hL : ((g0 :: gr).map PyData.int) = L at *
  have hng : ¬ s < maxL (0 :: F) := by omega
  rw [lb5_law, seq_nx (ρ' := [.d S, .d T, s2, s3, .d (.int s), .o L, s6, s7, .d (.int x), s9, s10, .d U, s12, s13]) (by
      simp only [sSet, nD, M.call, cons', nm, cst, R.bind, List.getElem?_cons_zero, List.getElem?_cons_succ, hrd, Out.r, R.out, List.set]),
    seq_nx (ρ' := [.d S, .d T, s2, s3, .d (.int s), .o L, s6, s7, .d (.int x), s9, s10, .d U, .o [], s13]) (by simp [fnM0, fnM, sSeq, sIf, sRet, sRetN, sSet, sNil, sDrop, sPar, sPar3, sPar4, sUnp, sApp, sExt, sPut, sFrz, own, frz, nD, nO, nLst, e1, e2, nm, bnm, cst, bv, chE, andT, orT, notT, andV, orV, notV, ifE, cons', tupE, lstE, asB, M.call, ncall, lcall, flatR, flatD, Out.r, Out.s, R.bind, R.of, R.out, pickF, bName, bTup, bNames, itE, items, sFor, lcD, sBad, yes]),
    seq_nx (ρ' := [.d S, .d T, s2, s3, .d (.int s), .o L, t6, s7, .d (.int x), s9, s10, .d U, .o ((0 :: F).map .int), s13]) (by
      have hrg := rg1_of (f := e1 lenD (cons' (bnm 1) (cst []))) (ρ := [.d S, .d T, s2, s3, .d (.int s), .o L, s6, s7, .d (.int x), s9, s10, .d U, .o [], s13]) (n := n) (by
        simp only [e1, cons', bnm, cst, R.bind, R.of, List.getElem?_cons_zero, List.getElem?_cons_succ, hlen]) hl3
      rw [sFor, hrg]
      exact e)]
  simp only [sIf, orT, e1, e2, cons', bnm, cst, R.bind, R.of, List.getElem?_cons_zero, List.getElem?_cons_succ, hi, neD_int, decide_true, Bool.not_true, Bool.false_eq_true, if_false, hmd, gtD, decide_eq_false hng, R.out, sNil]
theorem one_loop {w0 g0 s : Int} {wr gr : List Int} {s2 s3 s7 s9 s10 s13 : Sl} {S : D} (h : Wh (w0 :: wr)) (hl : gr.length = wr.length) (hs : 0 ≤ s) : ∀ (xs : List Int) (s6 s8 s11 s12 : Sl), (∀ x ∈ xs, x % w0 = g0 ∧ ∀ q ∈ wr.zip gr, ap q.1 (x % q.1) q.2 ≤ s) →
    ∃ t6 t8 t11 t12, forL (bName 8) lb5_law (xs.map .int) [.d S, .d (.tuple ((w0 :: wr).map .int)), s2, s3, .d (.int s), .o ((g0 :: gr).map .int), s6, s7, s8, s9, s10, s11, s12, s13] = .nx [.d S, .d (.tuple ((w0 :: wr).map .int)), s2, s3, .d (.int s), .o ((g0 :: gr).map .int), t6, s7, t8, s9, s10, t11, t12, s13]
  | [], s6, s8, s11, s12, _ => ⟨s6, s8, s11, s12, rfl⟩
  | x :: xs, s6, s8, s11, s12, k => by
    obtain ⟨k1, k2⟩ := k x (by simp)
    obtain ⟨t6, t11, t12, e⟩ := one_turn (s2 := s2) (s3 := s3) (s6 := s6) (s7 := s7) (s9 := s9) (s10 := s10) (s11 := s11) (s12 := s12) (s13 := s13) (S := S) h hl k1 k2 hs
    obtain ⟨u6, u8, u11, u12, e'⟩ := one_loop (s2 := s2) (s3 := s3) (s7 := s7) (s9 := s9) (s10 := s10) (s13 := s13) (S := S) h hl hs xs t6 (.d (.int x)) t11 t12 fun y hy => k y (by simp [hy])
    refine ⟨u6, u8, u11, u12, ?_⟩
    rw [List.map_cons, forL]
    simp only [bName, List.set, e]
    exact e'
theorem near_fin {P : Int → Int → Int} {T U L : D} {ls N : List D} {s p Z m : Int} {s3 s6 t6 t8 t11 t12 : Sl} (hL : L = .tuple ls) (hn : m_near [T, L, .int s] = .rf N) (hm : m_most_slack [T] = .rt (.int m)) (hn0 : m_near [T, U, .int 0] = .rf [.int (p % Z)]) (hin : inD (.int (p % Z)) (.list N) = some true) (hss : sortSetD (.list N) = some (.list N)) (q1 : eqD (.list N) (.list N) = some true) (q2 : eqD (.list [.int (p % Z)]) (.list [.int (p % Z)]) = some true) (hZ : 0 < Z)
    (e : forL (bName 8) lb5_law N [.d SCR, .d T, .d U, s3, .d (.int s), .o ls, s6, .d (.list N), .no, .d (.int Z), .d (.int p), .no, .no, .no] = .nx [.d SCR, .d T, .d U, s3, .d (.int s), .o ls, t6, .d (.list N), t8, .d (.int Z), .d (.int p), t11, t12, .no])
    (hne : s ≤ m → neD (.list N) (.list [.int (p % Z)]) = some false) :
    tl10_law [.d SCR, .d T, .d U, s3, .d (.int s), .o ls, s6, .no, .no, .d (.int Z), .d (.int p), .no, .no, .no] = .rt (.bool true) := by
  subst hL
  have c11 : tl11_law [.d SCR, .d T, .d U, s3, .d (.int s), .o ls, s6, .d (.list N), .no, .d (.int Z), .d (.int p), .no, .no, .no] = tl12_law [.d SCR, .d T, .d U, s3, .d (.int s), .o ls, s6, .d (.list N), .no, .d (.int Z), .d (.int p), .no, .no, .no] := by
    rw [tl11_law]
    refine seq_nx ?_
    by_cases hq : s ≤ m
    · have hne' := hne hq
      simp only [sIf, orT, andT, e2, modD, ninD, M.call, cons', nm, bnm, cst, lstE, R.bind, R.of, List.getElem?_cons_zero, List.getElem?_cons_succ, hZ, if_true, hin, Option.map_some, Bool.not_true, Bool.false_eq_true, if_false, hm, Out.r, leD, decide_eq_true hq, List.length_cons, List.length_nil, Nat.zero_add, Nat.reduceLeDiff, hne', R.out, sNil]
    · simp only [sIf, orT, andT, e2, modD, ninD, M.call, cons', nm, bnm, cst, lstE, R.bind, R.of, List.getElem?_cons_zero, List.getElem?_cons_succ, hZ, if_true, hin, Option.map_some, Bool.not_true, Bool.false_eq_true, if_false, hm, Out.r, leD, decide_eq_false hq, R.out, sNil]
  have c12 : tl12_law [.d SCR, .d T, .d U, s3, .d (.int s), .o ls, s6, .d (.list N), .no, .d (.int Z), .d (.int p), .no, .no, .no] = tl13_law [.d SCR, .d T, .d U, s3, .d (.int s), .o ls, t6, .d (.list N), t8, .d (.int Z), .d (.int p), t11, t12, .no] := by
    rw [tl12_law]
    refine seq_nx ?_
    simp only [sFor, itE, items, nm, R.bind, R.of, List.getElem?_cons_zero, List.getElem?_cons_succ, R.out]
    exact e
  rw [tl10_law, seq_nx (ρ' := [.d SCR, .d T, .d U, s3, .d (.int s), .o ls, s6, .d (.list N), .no, .d (.int Z), .d (.int p), .no, .no, .no]) (by
      simp only [sSet, nD, e1, M.call, cons', nm, bnm, cst, R.bind, R.of, List.getElem?_cons_zero, List.getElem?_cons_succ, tupleD, hn, Out.r, R.out, List.set]), c11, c12]
  simp only [tl13_law, sRet, andV, bv, e1, e2, bnm, nm, cst, cons', M.call, lstE, modD, R.bind, R.of, List.getElem?_cons_zero, List.getElem?_cons_succ, hss, q1, hn0, Out.r, hZ, if_true, List.length_cons, List.length_nil, Nat.zero_add, Nat.reduceLeDiff, q2, R.out]
/-- from the slips on -/
theorem law_near {P : Int → Int → Int} {w0 p s : Int} {wr gr : List Int} {s3 s6 : Sl} (h : Wh (w0 :: wr)) (g : Rd (w0 :: wr) (p % w0 :: gr)) (hsl : Slip p s (wr.zip gr)) (hs : 0 ≤ s ∧ s ≤ 3) :
    tl10_law [.d SCR, .d (.tuple ((w0 :: wr).map .int)), .d (.tuple (((w0 :: wr).map fun w => p % w).map .int)), s3, .d (.int s), .o ((p % w0 :: gr).map .int), s6, .no, .no, .d (.int (szf 1 (w0 :: wr))), .d (.int p), .no, .no, .no] = .rt (.bool true) := by
  have hl : gr.length = wr.length := by have := g.len; simpa using this
  have hn := m_near' h g (s := s) (by omega)
  have hm := m_most h
  have hw0 := h.r w0 (by simp)
  have htrue := near_true h g hsl
  have hZ := sz_pos h
  have g0 : Rd (w0 :: wr) (p % w0 :: wr.map fun w => p % w) := Rd.of h p
  have hn0 := m_near' h g0 (s := 0) (by omega)
  rw [near_zero h] at hn0
  have hfew := near_few h g hs.2
  have hself := sort_self (near_sorted (wr := wr) (g0 := p % w0) (gr := gr) (s := s) (by omega : 0 < w0))
  have halone := fun hq => near_alone (s := s) h g htrue hq
  have hin := in_ints (p % szf 1 (w0 :: wr)) (nearL w0 wr (p % w0) gr s)
  rw [decide_eq_true htrue] at hin
  obtain ⟨t6, t8, t11, t12, e⟩ := one_loop (s2 := .d (.tuple (((w0 :: wr).map fun w => p % w).map .int))) (s3 := s3) (s7 := .d (.list ((nearL w0 wr (p % w0) gr s).map .int))) (s9 := .d (.int (szf 1 (w0 :: wr)))) (s10 := .d (.int p)) (s13 := .no) (S := SCR) h hl hs.1 (nearL w0 wr (p % w0) gr s) s6 .no .no .no fun x hx => by
    have := (near_mem h g).mp hx
    exact ⟨this.2.1, this.2.2⟩
  have hle : ((nearL w0 wr (p % w0) gr s).length) ≤ 1000000 := by omega
  rw [List.map_cons (f := fun w => p % w)] at *
  generalize hT : PyData.tuple ((w0 :: wr).map .int) = T at *
  generalize hU : PyData.tuple ((p % w0 :: wr.map fun w => p % w).map .int) = U at *
  generalize hN : nearL w0 wr (p % w0) gr s = N at *
  generalize hZZ : szf 1 (w0 :: wr) = Z at *
  have hss : sortSetD (.list (N.map .int)) = some (.list (N.map .int)) := by
    simp only [sortSetD, itemsInt, ints_map, hfew, if_true, hself]
  have q1 := eqD_ints N N
  rw [decide_eq_true rfl] at q1
  have q2 := eqD_ints [p % Z] [p % Z]
  rw [decide_eq_true rfl] at q2
  have q2' : eqD (.list ([p % Z].map .int)) (.list [.int (p % Z)]) = some true := q2
  have hne : s ≤ msf wr 9 (plc w0 Z w0) → neD (.list (N.map .int)) (.list [.int (p % Z)]) = some false := fun hq => by
    have := neD_ints N [p % Z]
    rw [decide_eq_true (halone hq)] at this
    exact this
  exact near_fin (P := P) rfl hn hm hn0 hin hss q1 q2' hZ e hne
theorem law_slip {P : Int → Int → Int} (hP : Dr P) {w0 p : Int} {wr : List Int} {s3 : Sl} (h : Wh (w0 :: wr)) :
    tl7_law P [.d SCR, .d (.tuple ((w0 :: wr).map .int)), .d (.tuple (((w0 :: wr).map fun w => p % w).map .int)), s3, .no, .no, .no, .no, .no, .d (.int (szf 1 (w0 :: wr))), .d (.int p), .no, .no, .no] = .rt (.bool true) := by
  have s0 := hP.lo 7 4 (by decide)
  have s1 := hP.hi 7 4 (by decide)
  have d1 : (0 : Int) ≤ 7 ∧ (0 : Int) < 4 := by decide
  generalize hS : P 7 4 = s at *
  have hl3 := h.l3
  have hw0 := h.r w0 (by simp)
  obtain ⟨gr, t6, g1, g2, g3, e⟩ := slip_loop hP (T := .tuple ((w0 :: wr).map .int)) (U := .tuple (((w0 :: wr).map fun w => p % w).map .int)) (s3 := s3) (s7 := .no) (s8 := .no) (s9 := .d (.int (szf 1 (w0 :: wr)))) (s10 := .d (.int p)) (s11 := .no) (s12 := .no) (s13 := .no) (p := p) (s := s) s0 wr [w0] [.int (p % w0)] .no (by simp) (by simpa [Nat.add_comm] using hl3) (fun w hw => h.r w (by simp [hw])) rfl rfl (by simp at hl3 ⊢; omega)
  have g : Rd (w0 :: wr) (p % w0 :: gr) := ⟨by simp [g1], fun x hx => by
    rw [List.zip_cons_cons] at hx
    rcases List.mem_cons.mp hx with rfl | hx
    · exact ⟨Int.emod_nonneg _ (by omega), Int.emod_lt_of_pos _ (by omega)⟩
    · have : (x.2, x.1) ∈ wr.zip gr := by
        obtain ⟨i, hi⟩ := List.mem_iff_getElem?.mp hx
        obtain ⟨a, b⟩ := List.getElem?_zip_eq_some.mp hi
        exact List.mem_iff_getElem?.mpr ⟨i, List.getElem?_zip_eq_some.mpr ⟨b, a⟩⟩
      exact g3 _ this⟩
  have hfin := law_near (P := P) (s3 := s3) (s6 := t6) h g g2 (by omega)
  have hlen : lenD [.tuple ((w0 :: wr).map .int)] = some (.int ((w0 :: wr).length : Nat)) := by simp [lenD]
  have i0 : ixD (.tuple (((w0 :: wr).map fun w => p % w).map .int)) (.int 0) = some (.int (p % w0)) := by
    have := ixT ((w0 :: wr).map fun w => p % w) 0 (by simp)
    exact this
  have hr : (((w0 :: wr).length : Int) - 1).toNat = wr.length := by simp
  have hl4 : (w0 :: wr).length ≤ 1000000 := by omega
  generalize (w0 :: wr).length = n at *
  generalize hT : PyData.tuple ((w0 :: wr).map .int) = T at *
  generalize hU : PyData.tuple (((w0 :: wr).map fun w => p % w).map .int) = U at *
  generalize hZZ : szf 1 (w0 :: wr) = Z at *
  rw [tl7_law, seq_nx (ρ' := [.d SCR, .d T, .d U, s3, .d (.int s), .no, .no, .no, .no, .d (.int Z), .d (.int p), .no, .no, .no]) (by
      simp only [sSet, nD, M.call, cons', nm, cst, pickF, SCR, R.bind, List.getElem?_cons_zero, List.getElem?_cons_succ, d1, and_self, if_true, hS, Out.r, R.out, List.set]),
    tl8_law, seq_nx (ρ' := [.d SCR, .d T, .d U, s3, .d (.int s), .o [.int (p % w0)], .no, .no, .no, .d (.int Z), .d (.int p), .no, .no, .no]) (by
      simp only [sSet, nLst, e2, cons', bnm, cst, R.bind, R.of, List.getElem?_cons_zero, List.getElem?_cons_succ, i0, List.length_cons, List.length_nil, Nat.zero_add, Nat.reduceLeDiff, if_true, R.out, List.set]),
    tl9_law, seq_nx (ρ' := [.d SCR, .d T, .d U, s3, .d (.int s), .o ((p % w0 :: gr).map .int), t6, .no, .no, .d (.int Z), .d (.int p), .no, .no, .no]) (by
      have hrg := rg2_of (f := e1 lenD (cons' (bnm 1) (cst []))) (ρ := [.d SCR, .d T, .d U, s3, .d (.int s), .o [.int (p % w0)], .no, .no, .no, .d (.int Z), .d (.int p), .no, .no, .no]) (n := n) (by
        simp only [e1, cons', bnm, cst, R.bind, R.of, List.getElem?_cons_zero, List.getElem?_cons_succ, hlen]) hl4
      rw [sFor, hrg, hr]
      exact e)]
  exact hfin
theorem law_read {P : Int → Int → Int} (hP : Dr P) {w0 p : Int} {wr : List Int} (h : Wh (w0 :: wr)) :
    tl2_law P [.d SCR, .d (.tuple ((w0 :: wr).map .int)), .no, .no, .no, .no, .no, .no, .no, .d (.int (szf 1 (w0 :: wr))), .d (.int p), .no, .no, .no] = .rt (.bool true) := by
  have hfin := fun s3 => law_slip hP (p := p) (s3 := s3) h
  have hrd := fun q => m_read h q
  have hpb := m_place h p
  have hZ := sz_pos h
  have hdv : ∀ w ∈ w0 :: wr, w ∣ szf 1 (w0 :: wr) := szf_w _ 1
  have hsame : ((w0 :: wr).map fun w => (p + szf 1 (w0 :: wr)) % w) = (w0 :: wr).map fun w => p % w := by
    refine List.map_congr_left fun w hw => emod_of_dvd_sub ?_
    rw [show p + szf 1 (w0 :: wr) - p = szf 1 (w0 :: wr) by omega]
    exact hdv w hw
  have hno : ∀ b : Int, 1 ≤ b → b < szf 1 (w0 :: wr) → ¬ ((w0 :: wr).map fun w => (p + b) % w) = (w0 :: wr).map fun w => p % w := fun b b1 b2 e => by
    have : szf 1 (w0 :: wr) ∣ b := szf_dvd _ 1 b (Int.one_dvd b) fun w hw => by
      have := List.map_inj_left.mp e w hw
      have := dvd_of_emod this
      rw [show p + b - p = b by omega] at this
      exact this
    have := Int.le_of_dvd (by omega) this
    omega
  have hr1 := hrd p
  have hr2 := hrd (p + szf 1 (w0 :: wr))
  rw [hsame] at hr2
  have k1 : lcL (bName 13) yes (e2 modD (bnm 10) (bnm 13)) [.d SCR, .d (.tuple ((w0 :: wr).map .int)), .d (.tuple (((w0 :: wr).map fun w => p % w).map .int)), .no, .no, .no, .no, .no, .no, .d (.int (szf 1 (w0 :: wr))), .d (.int p), .no, .no, .no] ((w0 :: wr).map .int) = some (((w0 :: wr).map fun w => p % w).map .int) := by
    rw [lcL_all (d := PyData.int) (β := fun w => [.d SCR, .d (.tuple ((w0 :: wr).map .int)), .d (.tuple (((w0 :: wr).map fun w => p % w).map .int)), .no, .no, .no, .no, .no, .no, .d (.int (szf 1 (w0 :: wr))), .d (.int p), .no, .no, .d (.int w)]) (F := fun w => .int (p % w))]
    · rw [List.map_map]; rfl
    · intro w hw
      have := h.r w hw
      have hp : 0 < w := by omega
      exact ⟨rfl, by simp only [e2, bnm, R.bind, R.of, List.getElem?_cons_zero, List.getElem?_cons_succ, modD, hp, if_true]⟩
  have k2 : lcL (bName 13) ct2_law (nm 13) [.d SCR, .d (.tuple ((w0 :: wr).map .int)), .d (.tuple (((w0 :: wr).map fun w => p % w).map .int)), .no, .no, .no, .no, .no, .no, .d (.int (szf 1 (w0 :: wr))), .d (.int p), .no, .no, .no] ((w0 :: wr).map .int) = some [] := by
    rw [lcL_map (d := PyData.int) (β := fun w => [.d SCR, .d (.tuple ((w0 :: wr).map .int)), .d (.tuple (((w0 :: wr).map fun w => p % w).map .int)), .no, .no, .no, .no, .no, .no, .d (.int (szf 1 (w0 :: wr))), .d (.int p), .no, .no, .d (.int w)]) (T := fun _ => false) (F := fun w => .int w)]
    · rw [List.filter_eq_nil_iff.mpr (fun _ _ => by simp)]; rfl
    · intro w hw
      have := h.r w hw
      have hp : 0 < w := by omega
      have hz : szf 1 (w0 :: wr) % w = 0 := Int.emod_eq_zero_of_dvd (hdv w hw)
      refine ⟨rfl, ?_, fun hf => by simp at hf⟩
      simp only [ct2_law, e2, bnm, cst, R.bind, R.of, List.getElem?_cons_zero, List.getElem?_cons_succ, modD, hp, if_true, hz, neD_int, decide_true, Bool.not_true]
  have hl : ((w0 :: wr).map PyData.int).length ≤ 1000000 := by
    have := h.l3
    simp only [List.length_map]
    omega
  have hb0 : 0 < max 1 (szf 1 (w0 :: wr) - 1) := by omega
  have hmx : (if szf 1 (w0 :: wr) - 1 > 1 then szf 1 (w0 :: wr) - 1 else 1) = max 1 (szf 1 (w0 :: wr) - 1) := by split <;> omega
  have b0 := hP.lo 6 (max 1 (szf 1 (w0 :: wr) - 1)) hb0
  have n1 := neD_tints ((w0 :: wr).map fun w => p % w) ((w0 :: wr).map fun w => p % w)
  rw [decide_eq_true rfl] at n1
  have n2 := neD_int (p % szf 1 (w0 :: wr)) (p % szf 1 (w0 :: wr))
  rw [decide_eq_true rfl] at n2
  have n3 := neD_nil []
  rw [decide_eq_true rfl] at n3
  have hit : items (.tuple ((w0 :: wr).map .int)) = some ((w0 :: wr).map .int) := rfl
  have hq6 : ∀ b, 1 ≤ b → (if decide (b < szf 1 (w0 :: wr)) then eqD (.tuple (((w0 :: wr).map fun w => (p + b) % w).map .int)) (.tuple (((w0 :: wr).map fun w => p % w).map .int)) else some false) = some false := fun b hb => by
    by_cases c : b < szf 1 (w0 :: wr)
    · rw [decide_eq_true c, if_pos rfl, eqD_tints, decide_eq_false (hno b hb c)]
    · rw [decide_eq_false c]; rfl
  have hr3 := fun b => hrd (p + b)
  have h6 := hq6 (1 + P 6 (max 1 (szf 1 (w0 :: wr) - 1))) (by omega)
  have hr6 := hrd (p + (1 + P 6 (max 1 (szf 1 (w0 :: wr) - 1))))
  generalize hT : PyData.tuple ((w0 :: wr).map .int) = T at *
  generalize hU : PyData.tuple (((w0 :: wr).map fun w => p % w).map .int) = U at *
  generalize hV : PyData.tuple (((w0 :: wr).map fun w => (p + (1 + P 6 (max 1 (szf 1 (w0 :: wr) - 1)))) % w).map .int) = V at *
  generalize hZZ : szf 1 (w0 :: wr) = Z at *
  have dp : (0 : Int) ≤ 6 ∧ 0 < max 1 (Z - 1) := ⟨by decide, hb0⟩
  rw [tl2_law, seq_nx (ρ' := [.d SCR, .d T, .d U, .no, .no, .no, .no, .no, .no, .d (.int Z), .d (.int p), .no, .no, .no]) (by
      simp only [sSet, nD, M.call, cons', nm, cst, R.bind, List.getElem?_cons_zero, List.getElem?_cons_succ, hr1, Out.r, R.out, List.set]),
    tl3_law, seq_nx (ρ' := [.d SCR, .d T, .d U, .no, .no, .no, .no, .no, .no, .d (.int Z), .d (.int p), .no, .no, .no]) (by
      simp only [sIf, orT, e1, e2, lcD, lcE, itE, hit, M.call, cons', nm, bnm, cst, R.bind, R.of, List.getElem?_cons_zero, List.getElem?_cons_succ, hl, if_true, wip, List.set, k1, tupleD, hU, n1, Bool.not_true, Bool.false_eq_true, if_false, hpb, Out.r, modD, hZ, n2, R.out, sNil]),
    tl4_law, seq_nx (ρ' := [.d SCR, .d T, .d U, .no, .no, .no, .no, .no, .no, .d (.int Z), .d (.int p), .no, .no, .no]) (by
      simp only [sIf, orT, e1, e2, lcD, lcE, lstE, itE, hit, M.call, cons', nm, bnm, cst, addD, R.bind, R.of, List.getElem?_cons_zero, List.getElem?_cons_succ, hr2, Out.r, n1, Bool.not_true, Bool.false_eq_true, if_false, hl, if_true, wip, List.set, k2, List.length_nil, Nat.zero_le, R.out, sNil]
      rfl),
    tl5_law, seq_nx (ρ' := [.d SCR, .d T, .d U, .d (.int (1 + P 6 (max 1 (Z - 1)))), .no, .no, .no, .no, .no, .d (.int Z), .d (.int p), .no, .no, .no]) (by
      simp only [sSet, nD, e1, e2, M.call, cons', nm, bnm, cst, pickF, SCR, subD, addD, maxD, R.bind, R.of, List.getElem?_cons_zero, List.getElem?_cons_succ, hmx, dp, and_self, if_true, Out.r, R.out, List.set]),
    tl6_law, seq_nx (ρ' := [.d SCR, .d T, .d U, .d (.int (1 + P 6 (max 1 (Z - 1)))), .no, .no, .no, .no, .no, .d (.int Z), .d (.int p), .no, .no, .no]) (by
      generalize hB : 1 + P 6 (max 1 (Z - 1)) = b at *
      by_cases c : b < Z
      · rw [decide_eq_true c, if_pos rfl] at h6
        simp only [sIf, andT, e2, M.call, cons', nm, bnm, cst, ltD, addD, R.bind, R.of, List.getElem?_cons_zero, List.getElem?_cons_succ, decide_eq_true c, if_true, hr6, Out.r, h6, Bool.false_eq_true, if_false, R.out, sNil]
      · simp only [sIf, andT, e2, M.call, cons', nm, bnm, cst, ltD, addD, R.bind, R.of, List.getElem?_cons_zero, List.getElem?_cons_succ, decide_eq_false c, Bool.false_eq_true, if_false, R.out, sNil])]
  exact hfin _
theorem law_true' {P : Int → Int → Int} (hP : Dr P) : m_law P [SCR] = .rt (.bool true) := by
  have p0 := hP.lo 0 3 (by decide)
  have p1 := hP.hi 0 3 (by decide)
  have d0 : (0 : Int) ≤ 0 ∧ (0 : Int) < 3 := by decide
  have d5 : (0 : Int) ≤ 5 ∧ (0 : Int) < 2000 := by decide
  have c3 : -1000000000 ≤ 1 + P 0 3 ∧ 1 + P 0 3 ≤ 1000000000 := by omega
  let ws : List Int := (List.range (1 + P 0 3).toNat).map fun (i : Nat) => 2 + P (1 + (i : Int)) 9
  have hws : Wh ws := by
    refine ⟨by simp [ws]; omega, by simp [ws]; omega, fun w hw => ?_⟩
    obtain ⟨i, _, rfl⟩ := List.mem_map.mp hw
    have a := hP.lo (1 + (i : Int)) 9 (by decide)
    have b := hP.hi (1 + (i : Int)) 9 (by decide)
    omega
  have k0 : lcL (bName 6) yes (ce1_law P) [.d SCR, .no, .no, .no, .no, .no, .no, .no, .no, .no, .no, .no, .no, .no] (rng 0 (1 + P 0 3).toNat) = some (ws.map .int) := by
    rw [rng0, lcL_all (d := fun (i : Nat) => PyData.int (i : Nat)) (β := fun i => [.d SCR, .no, .no, .no, .no, .no, .d (.int (i : Nat)), .no, .no, .no, .no, .no, .no, .no]) (F := fun (i : Nat) => .int (2 + P (1 + (i : Int)) 9))]
    · simp only [ws, List.map_map]; rfl
    · intro i _
      have dd : (0 : Int) ≤ 1 + (i : Int) ∧ (0 : Int) < 9 := by omega
      exact ⟨rfl, by simp only [ce1_law, e2, M.call, cons', nm, bnm, cst, pickF, SCR, addD, R.bind, R.of, List.getElem?_cons_zero, List.getElem?_cons_succ, dd, and_self, if_true, Out.r]⟩
  have hl : (rng 0 (1 + P 0 3).toNat).length ≤ 1000000 := by simp [rng]; omega
  clear_value ws
  obtain ⟨w0, wr, rfl⟩ : ∃ w0 wr, ws = w0 :: wr := by
    cases ws with
    | nil => have := hws.l1; simp at this
    | cons w0 wr => exact ⟨w0, wr, rfl⟩
  have hsz := m_whl hws
  have hfin := law_read hP (p := P 5 2000 - 1000) hws
  generalize hT : PyData.tuple ((w0 :: wr).map .int) = T at *
  generalize hZZ : szf 1 (w0 :: wr) = Z at *
  refine fn_rt rfl ?_
  show tl0_law P [.d SCR, .no, .no, .no, .no, .no, .no, .no, .no, .no, .no, .no, .no, .no] = _
  rw [tl0_law, seq_nx (ρ' := [.d SCR, .d T, .no, .no, .no, .no, .no, .no, .no, .no, .no, .no, .no, .no]) (by
      simp only [sSet, nD, e1, e2, lcD, lcE, rg1, M.call, cons', nm, bnm, cst, pickF, SCR, addD, R.bind, R.of, List.getElem?_cons_zero, List.getElem?_cons_succ, d0, c3, and_self, if_true, Out.r, hl, wip, List.set]
      have k0' := k0
      rw [SCR] at k0'
      rw [k0']
      simp only [tupleD, hT, R.out]),
    tl1_law, seq_nx (ρ' := [.d SCR, .d T, .no, .no, .no, .no, .no, .no, .no, .d (.int Z), .d (.int (P 5 2000 - 1000)), .no, .no, .no]) (by
      simp only [sUnp, tupE, e2, M.call, cons', nm, bnm, cst, pickF, SCR, subD, R.bind, R.of, List.getElem?_cons_zero, List.getElem?_cons_succ, hsz, Out.r, d5, and_self, if_true, List.length_cons, List.length_nil, Nat.zero_add, Nat.reduceAdd, Nat.reduceLeDiff, R.out]
      rfl)]
  exact hfin
theorem law_true (ns : List Int) (hl : ns.length ≤ 63) : m_law (M.pick ns) [M.SCR] = .rt (.bool true) := law_true' (dr_pick ns)
end G
open PySem PySem.W PyProof.Rows
set_option maxHeartbeats 0 in
theorem PySem.Challenge.cw_turntracks_k78_whole_shafts_held_holds : PySem.Challenge.rw_turntracks_k78_whole_shafts_held.Holds := by
  w_on; o_law; k_head; (case hw => w_witness2)
  k_fill
  refine L2.walk_of (l := PySem.Challenge.rw_turntracks_k78_whole_shafts_held) (n := 63) (k := 5) (x := "script") (CX := fun _ => L2.CX0) (sp := fun w => G.spLaw _) rfl (by decide) rfl ⟨rfl, by decide, by decide⟩ (fun w h Y => PySem.W.kIn_of Y) ?F (fun _ _ a ns hl _ hS => ⟨a, ns, rfl, hS, G.law_true ns hl, fun _ => rfl⟩) (fun _ _ _ _ _ h => h)
  case F =>
    intro w mg fa h KX Gg hmg
    refine' G.all_end KX Gg hmg ?a0 ?l0 ?e0 ?k0 ?a1 ?l1 ?e1 ?k1 ?a2 ?l2 ?e2 ?k2 ?a3 ?l3 ?e3 ?k3 ?a4 ?l4 ?e4 ?k4 ?a5 ?l5 ?e5 ?k5 ?a6 ?l6 ?e6 ?k6 ?a7 ?l7 ?e7 ?k7 ?a8 ?l8 ?e8 ?k8 ?a9 ?l9 ?e9 ?k9 ?a10 ?l10 ?e10 ?k10 ?a11 ?l11 ?e11 ?k11 ?a12 ?l12 ?e12 ?k12 ?a13 ?l13 ?e13 ?k13 ?a14 ?l14 ?e14 ?k14 ?a15 ?l15 ?e15 ?k15 ?z_all ?z_bool ?z_int ?z_isinstance ?z_len ?z_list ?z_max ?z_min ?z_range ?z_set ?z_sorted ?z_tuple ?z_zip ?c_MOST_WHEELS ?c_MOST_SLACK
    (case a0 => k_is); (case l0 => k_is); (case e0 => k_is); (case k0 => k_is); (case a1 => k_is); (case l1 => k_is); (case e1 => k_is); (case k1 => k_is); (case a2 => k_is); (case l2 => k_is); (case e2 => k_is); (case k2 => k_is); (case a3 => k_is); (case l3 => k_is); (case e3 => k_is); (case k3 => k_is); (case a4 => k_is); (case l4 => k_is); (case e4 => k_is); (case k4 => k_is); (case a5 => k_is); (case l5 => k_is); (case e5 => k_is); (case k5 => k_is); (case a6 => k_is); (case l6 => k_is); (case e6 => k_is); (case k6 => k_is); (case a7 => k_is); (case l7 => k_is); (case e7 => k_is); (case k7 => k_is); (case a8 => k_is); (case l8 => k_is); (case e8 => k_is); (case k8 => k_is); (case a9 => k_is); (case l9 => k_is); (case e9 => k_is); (case k9 => k_is); (case a10 => k_is); (case l10 => k_is); (case e10 => k_is); (case k10 => k_is); (case a11 => k_is); (case l11 => k_is); (case e11 => k_is); (case k11 => k_is); (case a12 => k_is); (case l12 => k_is); (case e12 => k_is); (case k12 => k_is); (case a13 => k_is); (case l13 => k_is); (case e13 => k_is); (case k13 => k_is); (case a14 => k_is); (case l14 => k_is); (case e14 => k_is); (case k14 => k_is); (case a15 => k_is); (case l15 => k_is); (case e15 => k_is); (case k15 => k_is); (case z_all => k_is); (case z_bool => k_is); (case z_int => k_is); (case z_isinstance => k_is); (case z_len => k_is); (case z_list => k_is); (case z_max => k_is); (case z_min => k_is); (case z_range => k_is); (case z_set => k_is); (case z_sorted => k_is); (case z_tuple => k_is); (case z_zip => k_is); (case c_MOST_WHEELS => k_is); (case c_MOST_SLACK => k_is)
