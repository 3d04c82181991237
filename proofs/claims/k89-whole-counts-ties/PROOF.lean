import PyProof.Rows.All
import Wide.All
import OpenK.AllK
import Wide.FinOn
import HandS.ForMost
import HandS.Flow
import HandS.Conv
import HandS.Lambda
import HandS.Slots
import HandS.SlotsOwn
import HandS.Star
import HandS.Zip
import HandS.TupAny
import HandS.TupMul
import HandS.DictComp
import HandS.IsInst
import HandS.Defaults
import HandS.WideBits
import KE.KStateDown
import Lean
import HandS.Exc
import HandS.Head0
import HandS.Head1
import HandS.Head2
import HandS.HeadEnd
import HandS.HeadHook1
import HandS.HeadHook2
import HandS.HeadHook3
import HandS.HeadHook4
import HandS.HeadWalk
import PySem.Challenge.RW_ifthenbooks_k89_whole_counts_ties
import KE.SortKeyHeap
import KE.KSortKey
import KE.GoesEnum
import HandS.Iter
import KE.KDictCopyH
import KE.KDictOf
import HandS.Style
set_option Elab.async false
set_option linter.all false
set_option maxRecDepth 100000
set_option maxHeartbeats 4000000
set_option autoImplicit false
namespace G30
open PySem PySem.Spec PyProof.Rows L2 LamX StX SlX
/-! ### data -/
/-- what a value says: an int, a bool, None, an object at an address, a tuple of such, a book -/
inductive D where
  | i (n : Int) | b (x : Bool) | n | r (a : Addr) | t (ds : List D) | bk (m : Nat) (rs : D)
mutual
def At (B : Addr) (H : Hp) : D → V → Prop
  | .i k, v => v = .int k
  | .b x, v => v = .bl x
  | .n, v => v = .non
  | .r a, v => v = .ref a
  | .t ds, v => ∃ a vs, v = .ref a ∧ H a = some (.tup vs) ∧ AtL B H ds vs
  | .bk m rs, v => ∃ a dx r, v = .ref a ∧ H a = some (SlO a B dx [some (.int m), some r]) ∧ H dx = some (.xd []) ∧ At B H rs r
def AtL (B : Addr) (H : Hp) : List D → List V → Prop
  | [], vs => vs = []
  | d :: ds, vs => ∃ v r, vs = v :: r ∧ At B H d v ∧ AtL B H ds r
end
theorem AtL.nil {B : Addr} {H : Hp} {vs : List V} : AtL B H [] vs ↔ vs = [] := Iff.rfl
/-- kinds that stay as they are -/
def fixed : HO → Bool
  | .tup _ => true
  | .ext _ => true
  | .xd _ => true
  | .frz _ _ => true
  | _ => false
/-- nothing but a table stands there -/
def Nw (H : Hp) (b : Addr) : Prop := ∀ o, H b = some o → ∃ ps, o = .tbl ps
theorem Nw.of {H : Hp} {b : Addr} (h : H b = none) : Nw H b := fun o e => by rw [h] at e; cases e
instance {H : Hp} {b : Addr} : Coe (H b = none) (Nw H b) := ⟨Nw.of⟩
/-- all but what S names (and the tables) is kept; what never changes is kept anyway -/
structure Exb (T : List (Addr × Str)) (S : Addr → Prop) (H H' : Hp) : Prop where
  keep : ∀ b o, H b = some o → ¬ S b → (∀ ps, o ≠ .tbl ps) → H' b = some o
  fix : ∀ b o, H b = some o → fixed o = true → H' b = some o
  non : ∀ b, Nw H' b → Nw H b
  tabs : Tabs T H → Tabs T H'
abbrev Nob : Addr → Prop := fun _ => False
abbrev Ex (T : List (Addr × Str)) (H H' : Hp) : Prop := Exb T Nob H H'
section
variable {T : List (Addr × Str)} {S S' : Addr → Prop} {H H1 H2 H' : Hp} {B p : Addr}
theorem Exb.refl (H : Hp) : Exb T S H H := ⟨fun _ _ e _ _ => e, fun _ _ e _ => e, fun _ e => e, fun t => t⟩
theorem Exb.trans (a : Exb T S H H1) (b : Exb T S H1 H2) : Exb T S H H2 :=
  ⟨fun c o e n q => b.keep c o (a.keep c o e n q) n q, fun c o e q => b.fix c o (a.fix c o e q) q, fun c e => a.non c (b.non c e), fun t => b.tabs (a.tabs t)⟩
theorem Exb.mono (a : Exb T S H H1) (h : ∀ b, S b → S' b) : Exb T S' H H1 := ⟨fun c o e n q => a.keep c o e (fun z => n (h c z)) q, a.fix, a.non, a.tabs⟩
theorem Ex.to (a : Ex T H H1) : Exb T S H H1 := a.mono fun _ z => z.elim
/-- what S names was not there -/
theorem Exb.drop (a : Exb T S H H1) (h : ∀ b, S b → Nw H b) : Ex T H H1 := ⟨fun c o e _ q => a.keep c o e (fun z => by obtain ⟨ps, rfl⟩ := h c z o e; exact q ps rfl) q, a.fix, a.non, a.tabs⟩
theorem Ex.of (h : ∀ b o, H b = some o → H1 b = some o) : Ex T H H1 := ⟨fun b o e _ _ => h b o e, fun b o e _ => h b o e, fun b z o e => z o (h b o e), fun t => t.ext h⟩
theorem Ex.new {o : HO} (h : H p = none) : Ex T H (upd H p o) := Ex.of fun b u e => by
  rw [upd_ne (ne_of_none e h)]
  exact e
/-- an object of ours is changed -/
theorem Exb.mut {o1 o2 : HO} (a : Exb T S H H1) (hS : S p) (h1 : H1 p = some o1) (f1 : fixed o1 = false) (n1 : ∀ ps, o1 ≠ .tbl ps) (n2 : ∀ ps, o2 ≠ .tbl ps := by intro ps z; cases z) : Exb T S H (upd H1 p o2) := by
  have st : ∀ b o, H1 b = some o → fixed o = true → upd H1 p o2 b = some o := fun b o e q => by
    rw [upd_ne]
    · exact e
    · intro z
      rw [z, h1] at e
      cases e
      rw [f1] at q
      cases q
  refine ⟨fun b o e n q => ?_, fun b o e q => st b o (a.fix b o e q) q, fun b e => ?_, fun t => ?_⟩
  · rw [upd_ne (fun z => n (by rw [z]; exact hS))]
    exact a.keep b o e n q
  · by_cases q : b = p
    · subst q
      obtain ⟨ps, z⟩ := e _ upd_same
      exact absurd z (n2 ps)
    · exact a.non b fun o z => e o (by rw [upd_ne q]; exact z)
  · intro x hx
    obtain ⟨ps, e1, e2, e3⟩ := a.tabs t x hx
    refine ⟨ps, ?_, e2, fun pos cv hc => ?_⟩
    · rw [upd_ne (fun z => by rw [z, h1] at e1; exact n1 ps (Option.some.inj e1))]
      exact e1
    · obtain ⟨c, q1, q2⟩ := e3 pos cv hc
      exact ⟨c, q1, st c _ q2 rfl⟩
theorem Exb.free (a : Exb T S H H1) {l : Addr} (h : Nw H1 l) : Nw H l := a.non l h
/-- all but the tables is kept -/
theorem Ex.ofN (h : ExtN H H1) (ht : Tabs T H1) : Ex T H H1 := by
  refine ⟨fun b o e _ q => h b o e q, fun b o e f => h b o e fun ps z => ?_, fun b z o e => ?_, fun _ => ht⟩
  · rw [z] at f
    cases f
  · by_cases q : ∃ ps, o = .tbl ps
    · exact q
    · exact z o (h b o e fun ps y => q ⟨ps, y⟩)
theorem Ex.lst {xs : List V} (a : Ex T H H1) (h : H p = some (.lst xs)) : H1 p = some (.lst xs) := a.keep p _ h (fun z => z) fun ps z => by cases z
theorem Ex.dk {xs : List (Key × V)} (a : Ex T H H1) (h : H p = some (.dK xs)) : H1 p = some (.dK xs) := a.keep p _ h (fun z => z) fun ps z => by cases z
theorem Ex.dt {xs : List (List Key × V)} (a : Ex T H H1) (h : H p = some (.dT xs)) : H1 p = some (.dT xs) := a.keep p _ h (fun z => z) fun ps z => by cases z
theorem Exb.tup {xs : List V} (a : Exb T S H H1) (h : H p = some (.tup xs)) : H1 p = some (.tup xs) := a.fix p _ h rfl
theorem Ex.sql {K : PySem.W.Frag} {xs : List V} (a : Ex T H H1) (h : SqL K H p xs) : SqL K H1 p xs := by
  rcases h with (h | ⟨o, h⟩) | h
  · exact .inl (.inl (a.lst h))
  · exact .inl (.inr ⟨o, a.fix p _ h rfl⟩)
  · exact .inr h
theorem Ex.sqt {K : PySem.W.Frag} {xs : List V} (a : Exb T S H H1) (h : SqT K H p xs) : SqT K H1 p xs := by
  rcases h with (h | ⟨o, h⟩) | h
  · exact .inl (.inl (a.tup h))
  · exact .inl (.inr ⟨o, a.fix p _ h rfl⟩)
  · exact .inr h
end
mutual
theorem At.mono {T : List (Addr × Str)} {S : Addr → Prop} {H H' : Hp} {B : Addr} (a : Exb T S H H') : ∀ {d : D} {v : V}, At B H d v → At B H' d v
  | .i _, _, h => h
  | .b _, _, h => h
  | .n, _, h => h
  | .r _, _, h => h
  | .t ds, _, h => by
    obtain ⟨p, vs, e1, e2, e3⟩ := h
    exact ⟨p, vs, e1, a.tup e2, AtL.mono a e3⟩
  | .bk m rs, _, h => by
    obtain ⟨p, dx, r, e1, e2, e3, e4⟩ := h
    exact ⟨p, dx, r, e1, a.fix p _ e2 rfl, a.fix dx _ e3 rfl, At.mono a e4⟩
theorem AtL.mono {T : List (Addr × Str)} {S : Addr → Prop} {H H' : Hp} {B : Addr} (a : Exb T S H H') : ∀ {ds : List D} {vs : List V}, AtL B H ds vs → AtL B H' ds vs
  | [], _, h => h
  | _ :: _, _, h => by
    obtain ⟨v, r, e1, e2, e3⟩ := h
    exact ⟨v, r, e1, At.mono a e2, AtL.mono a e3⟩
end
section
variable {B : Addr} {H : Hp}
theorem AtL.len : ∀ {ds : List D} {vs : List V}, AtL B H ds vs → vs.length = ds.length
  | [], _, h => by
    have h : _ = [] := h
    rw [h]
    rfl
  | _ :: ds, _, h => by
    obtain ⟨v, r, e1, _, e3⟩ := h
    rw [e1, List.length_cons, List.length_cons, AtL.len e3]
theorem AtL.app : ∀ {ds es : List D} {vs ws : List V}, AtL B H ds vs → AtL B H es ws → AtL B H (ds ++ es) (vs ++ ws)
  | [], _, _, _, h, k => by
    have h : _ = [] := h
    rw [h]
    exact k
  | _ :: ds, _, _, _, h, k => by
    obtain ⟨v, r, e1, e2, e3⟩ := h
    rw [e1]
    exact ⟨v, r ++ _, rfl, e2, AtL.app e3 k⟩
theorem AtL.one {d : D} {v : V} (h : At B H d v) : AtL B H [d] [v] := ⟨v, [], rfl, h, rfl⟩
theorem AtL.get : ∀ {ds : List D} {vs : List V} {j : Nat} {v : V}, AtL B H ds vs → vs[j]? = some v → ∃ d, ds[j]? = some d ∧ At B H d v
  | [], _, j, v, h, e => by
    have h : _ = [] := h
    rw [h] at e
    simp at e
  | d :: ds, _, 0, v, h, e => by
    obtain ⟨w, r, rfl, e2, _⟩ := h
    have e : w = v := Option.some.inj e
    rw [← e]
    exact ⟨d, rfl, e2⟩
  | d :: ds, _, j + 1, v, h, e => by
    obtain ⟨w, r, rfl, _, e3⟩ := h
    exact AtL.get (ds := ds) (vs := r) (j := j) e3 e
theorem AtL.at : ∀ {ds : List D} {vs : List V} {j : Nat} {d : D}, AtL B H ds vs → ds[j]? = some d → ∃ v, vs[j]? = some v ∧ At B H d v
  | [], _, j, v, h, e => by simp at e
  | d :: ds, _, 0, v, h, e => by
    obtain ⟨w, r, rfl, e2, _⟩ := h
    have e : d = v := Option.some.inj e
    rw [← e]
    exact ⟨w, rfl, e2⟩
  | d :: ds, _, j + 1, v, h, e => by
    obtain ⟨w, r, rfl, _, e3⟩ := h
    exact AtL.at (ds := ds) (vs := r) (j := j) e3 e
theorem AtL.ints : ∀ {ns : List Int} {vs : List V}, AtL B H (ns.map .i) vs → vs = ns.map V.int
  | [], _, h => h
  | n :: ns, _, h => by
    obtain ⟨v, r, rfl, e2, e3⟩ := h
    have e2 : v = .int n := e2
    rw [e2, AtL.ints e3]
    rfl
theorem AtL.bools : ∀ {ns : List Bool} {vs : List V}, AtL B H (ns.map .b) vs → vs = ns.map V.bl
  | [], _, h => h
  | n :: ns, _, h => by
    obtain ⟨v, r, rfl, e2, e3⟩ := h
    have e2 : v = .bl n := e2
    rw [e2, AtL.bools e3]
    rfl
theorem AtL.of_ints : ∀ (ns : List Int), AtL B H (ns.map .i) (ns.map V.int)
  | [] => rfl
  | n :: ns => ⟨.int n, ns.map V.int, rfl, rfl, AtL.of_ints ns⟩
theorem AtL.of_bools : ∀ (ns : List Bool), AtL B H (ns.map .b) (ns.map V.bl)
  | [] => rfl
  | n :: ns => ⟨.bl n, ns.map V.bl, rfl, rfl, AtL.of_bools ns⟩
theorem AtL.two {d e : D} {vs : List V} (h : AtL B H [d, e] vs) : ∃ v w, vs = [v, w] ∧ At B H d v ∧ At B H e w := by
  obtain ⟨v, r, rfl, h1, w, r', rfl, h2, h3⟩ := h
  have h3 : r' = [] := h3
  rw [h3]
  exact ⟨v, w, rfl, h1, h2⟩
theorem AtL.single {d : D} {vs : List V} (h : AtL B H [d] vs) : ∃ v, vs = [v] ∧ At B H d v := by
  obtain ⟨v, r, rfl, h1, h3⟩ := h
  have h3 : r = [] := h3
  rw [h3]
  exact ⟨v, rfl, h1⟩
theorem AtL.three {d e f : D} {vs : List V} (h : AtL B H [d, e, f] vs) : ∃ v w x, vs = [v, w, x] ∧ At B H d v ∧ At B H e w ∧ At B H f x := by
  obtain ⟨v, r, rfl, h1, h2⟩ := h
  obtain ⟨w, x, rfl, h3, h4⟩ := AtL.two h2
  exact ⟨v, w, x, rfl, h1, h3, h4⟩
end
/-- a set of marks (a tuple of ints) -/
abbrev sD (s : List Int) : D := .t (s.map .i)
theorem At.set {B : Addr} {H : Hp} {s : List Int} {v : V} (h : At B H (sD s) v) : ∃ a, v = .ref a ∧ H a = some (.tup (s.map V.int)) := by
  obtain ⟨a, vs, e1, e2, e3⟩ := h
  rw [AtL.ints e3] at e2
  exact ⟨a, e1, e2⟩
theorem At.of_set {B a : Addr} {H : Hp} {s : List Int} (h : H a = some (.tup (s.map V.int))) : At B H (sD s) (.ref a) := ⟨a, _, rfl, h, AtL.of_ints s⟩
/-! ### the frame -/
structure Sl (T : List (Addr × Str)) (B : Addr) (H : Hp) (σ : L2.St) (Γ : List (Option D)) : Prop where
  tabs : Tabs T H
  len : σ.length = Γ.length
  at_ : ∀ (i : Nat) (d : D), Γ[i]? = some (some d) → ∃ v, σ[i]? = some (some v) ∧ At B H d v
section
variable {T : List (Addr × Str)} {S : Addr → Prop} {B : Addr} {H H' : Hp} {σ : L2.St} {Γ : List (Option D)} {i : Nat} {d : D} {v : V}
theorem Sl.mono (s : Sl T B H σ Γ) (e : Exb T S H H') : Sl T B H' σ Γ := ⟨e.tabs s.tabs, s.len, fun i d h => by
  obtain ⟨v, h1, h2⟩ := s.at_ i d h
  exact ⟨v, h1, h2.mono e⟩⟩
theorem Sl.set (s : Sl T B H σ Γ) (h : At B H d v) : Sl T B H (σ.set i (some v)) (Γ.set i (some d)) := ⟨s.tabs, by rw [List.length_set, List.length_set]; exact s.len, fun j e hj => by
  by_cases q : i = j
  · subst q
    by_cases hl : i < Γ.length
    · rw [List.getElem?_set_self hl] at hj
      have hj : d = e := Option.some.inj (Option.some.inj hj)
      subst hj
      exact ⟨v, List.getElem?_set_self (by rw [s.len]; exact hl), h⟩
    · rw [List.getElem?_eq_none (by rw [List.length_set]; omega)] at hj
      cases hj
  · rw [List.getElem?_set_ne q] at hj
    obtain ⟨w, h1, h2⟩ := s.at_ j e hj
    exact ⟨w, by rw [List.getElem?_set_ne q]; exact h1, h2⟩⟩
theorem Sl.weak {Γ' : List (Option D)} (s : Sl T B H σ Γ) (hl : Γ'.length = Γ.length) (h : ∀ (i : Nat) (d : D), Γ'[i]? = some (some d) → Γ[i]? = some (some d)) : Sl T B H σ Γ' := ⟨s.tabs, by rw [s.len, hl], fun i d e => s.at_ i d (h i d e)⟩
def wipeG (Γ : List (Option D)) : List Nat → List (Option D)
  | [] => Γ
  | v :: vs => (wipeG Γ vs).set v none
theorem Sl.unset (s : Sl T B H σ Γ) (i : Nat) : Sl T B H (σ.set i none) (Γ.set i none) := ⟨s.tabs, by rw [List.length_set, List.length_set]; exact s.len, fun j e hj => by
  by_cases q : i = j
  · subst q
    by_cases hl : i < Γ.length
    · rw [List.getElem?_set_self hl] at hj
      cases hj
    · rw [List.getElem?_eq_none (by rw [List.length_set]; omega)] at hj
      cases hj
  · rw [List.getElem?_set_ne q] at hj
    obtain ⟨w, h1, h2⟩ := s.at_ j e hj
    exact ⟨w, by rw [List.getElem?_set_ne q]; exact h1, h2⟩⟩
theorem Sl.wipe (s : Sl T B H σ Γ) : ∀ vs : List Nat, Sl T B H (wipe σ vs) (wipeG Γ vs)
  | [] => s
  | v :: vs => (Sl.wipe s vs).unset v
end
/-! ### the strongest readings -/
def wE (X : Cx) (e : Expr) : TE := fun σ H Q => ∀ (pins : List (Addr × Obj)) (s : Shared), Inv X pins σ H s → wpAny (model X.prog X.w) X.A (eval e X.env) (EP X pins σ Q) X.xe s
def wT (X : Cx) (e : Expr) : TT := fun σ H Q => ∀ (pins : List (Addr × Obj)) (s : Shared), Inv X pins σ H s → wpAny (model X.prog X.w) X.A (isTrue e X.env (eval e X.env)) (TP X pins σ Q) X.xe s
def wA (X : Cx) (es : List Expr) : TA := fun σ H Q => ∀ (pos : Pos) (pins : List (Addr × Obj)) (s : Shared), Inv X pins σ H s → wpAny (model X.prog X.w) X.A (spliced (backTo pos (starEach es X.env))) (AP X pins σ Q) X.xe s
def wS (X : Cx) (st : List Stmt) : TS := fun D σ H => ∀ (pins : List (Addr × Obj)) (s : Shared), Inv X pins σ H s → wpAny (model X.prog X.w) X.A (execs st X.env) (SP X pins D) X.xe s
section
variable {X : Cx} {e : Expr} {es : List Expr} {sts : List Stmt}
theorem peS (X : Cx) (e : Expr) : PE X e (wE X e) := ⟨fun pins s _ _ _ I h => h pins s I⟩
theorem ptS (X : Cx) (e : Expr) : PT X e (wT X e) := ⟨fun pins s _ _ _ I h => h pins s I⟩
theorem paS (X : Cx) (es : List Expr) : PA X es (wA X es) := ⟨fun pos pins s _ _ _ I h => h pos pins s I⟩
theorem psS (X : Cx) (sts : List Stmt) : PSs X sts (wS X sts) := ⟨fun pins s _ _ _ I h => h pins s I⟩
theorem PE.w {t : TE} (h : PE X e t) {σ : L2.St} {H : Hp} {Q : VK} (q : t σ H Q) : wE X e σ H Q := fun pins s I => h.run pins s σ H Q I q
theorem PT.w {t : TT} (h : PT X e t) {σ : L2.St} {H : Hp} {Q : Bool → Hp → Prop} (q : t σ H Q) : wT X e σ H Q := fun pins s I => h.run pins s σ H Q I q
theorem PA.w {t : TA} (h : PA X es t) {σ : L2.St} {H : Hp} {Q : List V → Hp → Prop} (q : t σ H Q) : wA X es σ H Q := fun pos pins s I => h.run pos pins s σ H Q I q
theorem PSs.w {t : TS} (h : PSs X sts t) {σ : L2.St} {H : Hp} {D : Ends} (q : t D σ H) : wS X sts D σ H := fun pins s I => h.run pins s σ H D I q
end
/-! ### judgements over data -/
section
variable (X : Cx) (T : List (Addr × Str)) (B : Addr)
/-- e gives the data d -/
def PD (e : Expr) (Γ : List (Option D)) (H : Hp) (d : D) : Prop := ∀ σ H1, Ex T H H1 → Sl T B H1 σ Γ → ∀ Q : VK, (∀ v H2, Ex T H1 H2 → At B H2 d v → Q v H2) → wE X e σ H1 Q
/-- e gives a new list -/
def PL (e : Expr) (Γ : List (Option D)) (H : Hp) (ds : List D) : Prop := ∀ σ H1, Ex T H H1 → Sl T B H1 σ Γ → ∀ Q : VK, (∀ p vs H2, Nw H1 p → Ex T H1 H2 → H2 p = some (.lst vs) → AtL B H2 ds vs → Q (.ref p) H2) → wE X e σ H1 Q
/-- e gives some list -/
def PR (e : Expr) (Γ : List (Option D)) (H : Hp) (ds : List D) : Prop := ∀ σ H1, Ex T H H1 → Sl T B H1 σ Γ → ∀ Q : VK, (∀ p vs H2, Ex T H1 H2 → SqL X.K H2 p vs → AtL B H2 ds vs → Q (.ref p) H2) → wE X e σ H1 Q
/-- a test -/
def TD (e : Expr) (Γ : List (Option D)) (H : Hp) (b : Bool) : Prop := ∀ σ H1, Ex T H H1 → Sl T B H1 σ Γ → ∀ Q : Bool → Hp → Prop, (∀ H2, Ex T H1 H2 → Q b H2) → wT X e σ H1 Q
/-- arguments -/
def AD (es : List Expr) (Γ : List (Option D)) (H : Hp) (ds : List D) : Prop := ∀ σ H1, Ex T H H1 → Sl T B H1 σ Γ → ∀ Q : List V → Hp → Prop, (∀ vs H2, Ex T H1 H2 → AtL B H2 ds vs → Q vs H2) → wA X es σ H1 Q
/-- statements, to the ends F -/
def SD (sts : List Stmt) (Γ : List (Option D)) (H : Hp) (F : Ends) : Prop := ∀ σ H1, Ex T H H1 → Sl T B H1 σ Γ → wS X sts F σ H1
end
section
variable {X : Cx} {T : List (Addr × Str)} {B : Addr} {Γ : List (Option D)} {H H' : Hp} {d d1 d2 : D} {ds es : List D} {e a b c : Expr} {pos : Pos} {i : Nat} {x : Str}
theorem PD.mono (h : PD X T B e Γ H d) (k : Ex T H H') : PD X T B e Γ H' d := fun σ H1 x s Q q => h σ H1 (k.trans x) s Q q
theorem PL.mono (h : PL X T B e Γ H ds) (k : Ex T H H') : PL X T B e Γ H' ds := fun σ H1 x s Q q => h σ H1 (k.trans x) s Q q
theorem PR.mono (h : PR X T B e Γ H ds) (k : Ex T H H') : PR X T B e Γ H' ds := fun σ H1 x s Q q => h σ H1 (k.trans x) s Q q
theorem TD.mono {k : Bool} (h : TD X T B e Γ H k) (g : Ex T H H') : TD X T B e Γ H' k := fun σ H1 x s Q q => h σ H1 (g.trans x) s Q q
theorem PD.is (h : PD X T B e Γ H d1) (k : d1 = d) : PD X T B e Γ H d := k ▸ h
theorem PL.is (h : PL X T B e Γ H ds) (k : ds = es) : PL X T B e Γ H es := k ▸ h
theorem PR.is (h : PR X T B e Γ H ds) (k : ds = es) : PR X T B e Γ H es := k ▸ h
theorem TD.is {k l : Bool} (h : TD X T B e Γ H k) (g : k = l) : TD X T B e Γ H l := g ▸ h
theorem PL.r (h : PL X T B e Γ H ds) : PR X T B e Γ H ds := fun σ H1 x s Q q => h σ H1 x s Q fun p vs H2 _ e2 e3 e4 => q p vs H2 e2 (.inl (.inl e3)) e4
theorem pd_var (hN : X.N[i]? = some x) (hv : Vis X.env.scope x) (hΓ : Γ[i]? = some (some d)) (hd : (x == ("__debug__" : Str)) = false := by decide) (hcd : (x == ("__classdict__" : Str)) = false := by decide) : PD X T B (.Name x pos) Γ H d := fun σ H1 _ s Q q => by
  obtain ⟨v, e1, e2⟩ := s.at_ i d hΓ
  exact PE.w (pe_var hN hv hd hcd) ⟨v, e1, q v H1 (Exb.refl _) e2⟩
/-- a name that holds a list -/
theorem pr_var {p : Addr} {vs : List V} (hN : X.N[i]? = some x) (hv : Vis X.env.scope x) (hΓ : Γ[i]? = some (some (.r p))) (hl : SqL X.K H p vs) (ha : AtL B H ds vs) (hd : (x == ("__debug__" : Str)) = false := by decide) (hcd : (x == ("__classdict__" : Str)) = false := by decide) : PR X T B (.Name x pos) Γ H ds := fun σ H1 e s Q q => by
  obtain ⟨v, e1, e2⟩ := s.at_ i _ hΓ
  have e2 : v = .ref p := e2
  rw [e2] at e1
  exact PE.w (pe_var hN hv hd hcd) ⟨_, e1, q p vs H1 (Exb.refl _) (Ex.sql e hl) (ha.mono e)⟩
theorem pd_int {k : Int} {j} : PD X T B (.Constant (.int k) j pos) Γ H (.i k) := fun σ H1 _ s Q q => PE.w pe_int (q _ H1 (Exb.refl _) rfl)
theorem pd_bl {k : Bool} {j} : PD X T B (.Constant (.bool k) j pos) Γ H (.b k) := fun σ H1 _ s Q q => PE.w pe_bl (q _ H1 (Exb.refl _) rfl)
theorem pd_non {j} : PD X T B (.Constant .none j pos) Γ H .n := fun σ H1 _ s Q q => PE.w pe_non (q _ H1 (Exb.refl _) rfl)
theorem pd_gint {k : Int} (hg : Gl X x) (hm : ∃ t, X.mg x = some (.int k t)) (hd : (x == ("__debug__" : Str)) = false := by decide) : PD X T B (.Name x pos) Γ H (.i k) := fun σ H1 _ s Q q => by
  obtain ⟨t, hm⟩ := hm
  exact PE.w (pe_glob (v := .int k) hg hm ⟨t, rfl⟩ hd) (q _ H1 (Exb.refl _) rfl)
/-- an operation on two values, told of data -/
def RD (T : List (Addr × Str)) (B : Addr) (r : R2) (d1 d2 d : D) (H : Hp) : Prop := ∀ x y H1, Ex T H H1 → At B H1 d1 x → At B H1 d2 y → ∀ Q : VK, (∀ v H2, Ex T H1 H2 → At B H2 d v → Q v H2) → r x y H1 Q
theorem pd_op {op : Operator} {r : R2} (ho : OpR X (binaryOp op) r) (ha : PD X T B a Γ H d1) (hb : PD X T B b Γ H d2) (hr : RD T B r d1 d2 d H) : PD X T B (.BinOp a op b pos) Γ H d := fun σ H1 e s Q q =>
  PE.w (pe_op ho (peS X a) (peS X b)) (ha σ H1 e s _ fun v H2 e2 at2 => hb σ H2 (e.trans e2) (s.mono e2) _ fun u H3 e3 at3 => hr v u H3 ((e.trans e2).trans e3) (at2.mono e3) at3 Q fun z H4 e4 at4 => q z H4 ((e2.trans e3).trans e4) at4)
theorem pd_cmp {op : CmpOp} {r : R2} (ho : OpR X (compareOp op) r) (ha : PD X T B a Γ H d1) (hb : PD X T B b Γ H d2) (hr : RD T B r d1 d2 d H) (hm : behindInMarks op b = false := by first | exact nomark _ | with_unfolding_all rfl) : PD X T B (.Compare a [op] [b] pos) Γ H d := fun σ H1 e s Q q =>
  PE.w (pe_cmpR ho (peS X a) (peS X b) hm) (ha σ H1 e s _ fun v H2 e2 at2 => hb σ H2 (e.trans e2) (s.mono e2) _ fun u H3 e3 at3 => hr v u H3 ((e.trans e2).trans e3) (at2.mono e3) at3 Q fun z H4 e4 at4 => q z H4 ((e2.trans e3).trans e4) at4)
theorem td_cmp {op : CmpOp} {r : R2} {k : Bool} (ho : OpR X (compareOp op) r) (ha : PD X T B a Γ H d1) (hb : PD X T B b Γ H d2) (hr : RD T B r d1 d2 (.b k) H) (hm : behindInMarks op b = false := by first | exact nomark _ | with_unfolding_all rfl) : TD X T B (.Compare a [op] [b] pos) Γ H k := fun σ H1 e s Q q =>
  PT.w (pt_cmpR ho (peS X a) (peS X b) hm) (ha σ H1 e s _ fun v H2 e2 at2 => hb σ H2 (e.trans e2) (s.mono e2) _ fun u H3 e3 at3 => hr v u H3 ((e.trans e2).trans e3) (at2.mono e3) at3 _ fun z H4 e4 at4 => ⟨k, at4, q H4 ((e2.trans e3).trans e4)⟩)
/-- any expression whose data is a bool, as a test -/
theorem td_val {k : Bool} (h : PD X T B e Γ H (.b k)) (he : ∀ whole, isTrue e X.env whole = (do let v ← whole; standAt e.pos; holding [v] (truthy v)) := by intro _; rfl) : TD X T B e Γ H k := fun σ H1 x s Q q =>
  PT.w (pt_val (peS X e) he) (h σ H1 x s _ fun v H2 e2 at2 => ⟨k, at2, q H2 e2⟩)
theorem rd_I0 {g : Int → Int → V} {m n : Int} (h : ∀ H, At B H d (g m n)) : RD T B (rI0 g) (.i m) (.i n) d H := fun x y H1 _ h1 h2 Q q => ⟨m, n, h1, h2, q _ H1 (Exb.refl _) (h H1)⟩
theorem rd_I {C : Int → Int → Prop} {g : Int → Int → V} {m n : Int} (hc : C m n) (h : ∀ H, At B H d (g m n)) : RD T B (rI C g) (.i m) (.i n) d H := fun x y H1 _ h1 h2 Q q => ⟨m, n, h1, h2, hc, q _ H1 (Exb.refl _) (h H1)⟩
theorem pd_add {m n : Int} (ha : PD X T B a Γ H (.i m)) (hb : PD X T B b Γ H (.i n)) : PD X T B (.BinOp a .Add b pos) Γ H (.i (m + n)) := pd_op op_add ha hb (rd_I0 fun _ => rfl)
theorem pd_sub {m n : Int} (ha : PD X T B a Γ H (.i m)) (hb : PD X T B b Γ H (.i n)) : PD X T B (.BinOp a .Sub b pos) Γ H (.i (m - n)) := pd_op op_sub ha hb (rd_I0 fun _ => rfl)
theorem pd_mul {m n : Int} (ha : PD X T B a Γ H (.i m)) (hb : PD X T B b Γ H (.i n)) (hc : CMul m n) : PD X T B (.BinOp a .Mult b pos) Γ H (.i (m * n)) := pd_op op_mul ha hb (rd_I hc fun _ => rfl)
theorem pd_mulX {m n : Int} (ha : PD X T B a Γ H (.i m)) (hb : PD X T B b Γ H (.i n)) (hc : CMulX m n) : PD X T B (.BinOp a .Mult b pos) Γ H (.i (m * n)) := pd_op op_mulX ha hb (rd_I hc fun _ => rfl)
theorem pd_mod {m n : Int} (ha : PD X T B a Γ H (.i m)) (hb : PD X T B b Γ H (.i n)) (hc : 0 < n) : PD X T B (.BinOp a .Mod b pos) Γ H (.i (m % n)) := pd_op op_mod ha hb (rd_I hc fun _ => rfl)
theorem pd_fdiv {m n : Int} (ha : PD X T B a Γ H (.i m)) (hb : PD X T B b Γ H (.i n)) (hc : CDivN m n) : PD X T B (.BinOp a .FloorDiv b pos) Γ H (.i (m.fdiv n)) := pd_op op_fdivN ha hb (rd_I hc fun _ => rfl)
theorem pd_lt {m n : Int} (ha : PD X T B a Γ H (.i m)) (hb : PD X T B b Γ H (.i n)) : PD X T B (.Compare a [.Lt] [b] pos) Γ H (.b (decide (m < n))) := pd_cmp op_lt ha hb (rd_I0 fun _ => rfl)
theorem pd_gt {m n : Int} (ha : PD X T B a Γ H (.i m)) (hb : PD X T B b Γ H (.i n)) : PD X T B (.Compare a [.Gt] [b] pos) Γ H (.b (decide (n < m))) := pd_cmp op_gt ha hb (rd_I0 fun _ => rfl)
theorem pd_eqI {m n : Int} (ha : PD X T B a Γ H (.i m)) (hb : PD X T B b Γ H (.i n)) : PD X T B (.Compare a [.Eq] [b] pos) Γ H (.b (decide (m = n))) := pd_cmp op_eq ha hb (fun x y H1 _ h1 h2 Q q => by
  have h1 : x = .int m := h1
  have h2 : y = .int n := h2
  subst h1 h2
  refine ⟨rfl, q _ H1 (Exb.refl _) ?_⟩
  show V.bl (decide (V.int m = V.int n)) = V.bl (decide (m = n))
  congr 1
  exact decide_eq_decide.mpr ⟨fun z => by injection z, fun z => by rw [z]⟩)
theorem td_lt {m n : Int} (ha : PD X T B a Γ H (.i m)) (hb : PD X T B b Γ H (.i n)) : TD X T B (.Compare a [.Lt] [b] pos) Γ H (decide (m < n)) := td_cmp op_lt ha hb (rd_I0 fun _ => rfl)
theorem td_gt {m n : Int} (ha : PD X T B a Γ H (.i m)) (hb : PD X T B b Γ H (.i n)) : TD X T B (.Compare a [.Gt] [b] pos) Γ H (decide (n < m)) := td_cmp op_gt ha hb (rd_I0 fun _ => rfl)
theorem td_ge {m n : Int} (ha : PD X T B a Γ H (.i m)) (hb : PD X T B b Γ H (.i n)) : TD X T B (.Compare a [.GtE] [b] pos) Γ H (decide (n ≤ m)) := td_cmp op_ge ha hb (rd_I0 fun _ => rfl)
theorem rd_eqI {m n : Int} : RD T B rEq (.i m) (.i n) (.b (decide (m = n))) H := fun x y H1 _ h1 h2 Q q => by
  have h1 : x = .int m := h1
  have h2 : y = .int n := h2
  subst h1 h2
  refine ⟨rfl, q _ H1 (Exb.refl _) ?_⟩
  show V.bl (decide (V.int m = V.int n)) = V.bl (decide (m = n))
  congr 1
  exact decide_eq_decide.mpr ⟨fun z => by injection z, fun z => by rw [z]⟩
theorem rd_neI {m n : Int} : RD T B rNe (.i m) (.i n) (.b (!decide (m = n))) H := fun x y H1 _ h1 h2 Q q => by
  have h1 : x = .int m := h1
  have h2 : y = .int n := h2
  subst h1 h2
  refine ⟨rfl, q _ H1 (Exb.refl _) ?_⟩
  show V.bl (!decide (V.int m = V.int n)) = V.bl (!decide (m = n))
  congr 2
  exact decide_eq_decide.mpr ⟨fun z => by injection z, fun z => by rw [z]⟩
theorem td_eqI {m n : Int} (ha : PD X T B a Γ H (.i m)) (hb : PD X T B b Γ H (.i n)) : TD X T B (.Compare a [.Eq] [b] pos) Γ H (decide (m = n)) := td_cmp op_eq ha hb rd_eqI
theorem td_neI {m n : Int} (ha : PD X T B a Γ H (.i m)) (hb : PD X T B b Γ H (.i n)) : TD X T B (.Compare a [.NotEq] [b] pos) Γ H (!decide (m = n)) := td_cmp op_ne ha hb rd_neI
theorem pd_neg {m : Int} (ha : PD X T B a Γ H (.i m)) : PD X T B (.UnaryOp .USub a pos) Γ H (.i (-m)) := fun σ H1 e s Q q =>
  PE.w (pe_un un_neg (peS X a)) (ha σ H1 e s _ fun v H2 e2 at2 => ⟨m, at2, q _ H2 e2 rfl⟩)
/-! tests -/
theorem td_not {k : Bool} (h : TD X T B a Γ H k) : TD X T B (.UnaryOp .Not a pos) Γ H (!k) := fun σ H1 e s Q q => PT.w (pt_not (ptS X a)) (h σ H1 e s _ q)
/-- and | or: the rest is asked when it is needed -/
def WD (X : Cx) (T : List (Addr × Str)) (B : Addr) (e : Expr) (Γ : List (Option D)) (H : Hp) (k : Bool) : Prop := ∃ t, PW X e t ∧ ∀ σ H1, Ex T H H1 → Sl T B H1 σ Γ → ∀ Q : Bool → Hp → Prop, (∀ H2, Ex T H1 H2 → Q k H2) → t σ H1 Q
theorem WD.t {k : Bool} (h : WD X T B e Γ H k) : TD X T B e Γ H k := by
  obtain ⟨t, h1, h2⟩ := h
  exact fun σ H1 e s Q q => PT.w h1.pt (h2 σ H1 e s Q q)
theorem wd_and1 {k : Bool} (h : TD X T B a Γ H k) : WD X T B (.BoolOp .And [a] pos) Γ H k := ⟨_, pw_and1 (ptS X a), h⟩
theorem wd_or1 {k : Bool} (h : TD X T B a Γ H k) : WD X T B (.BoolOp .Or [a] pos) Γ H k := ⟨_, pw_or1 (ptS X a), h⟩
theorem wd_and {k l : Bool} {rest : List Expr} (h : TD X T B a Γ H k) (g : k = true → WD X T B (.BoolOp .And (b :: rest) pos) Γ H l) : WD X T B (.BoolOp .And (a :: b :: rest) pos) Γ H (k && l) := by
  cases k with
  | false => exact ⟨tAnd (wT X a) (fun σ H Q => ∀ wh pins s, Inv X pins σ H s → wpAny (model X.prog X.w) X.A (isTrue (.BoolOp .And (b :: rest) pos) X.env wh) (TP X pins σ Q) X.xe s), pw_and (ptS X a) ⟨fun wh pins s _ _ _ I h => h wh pins s I⟩, fun σ H1 e s Q q => h σ H1 e s _ fun H2 e2 => q H2 e2⟩
  | true =>
    obtain ⟨t, h1, h2⟩ := g rfl
    exact ⟨_, pw_and (ptS X a) h1, fun σ H1 e s Q q => h σ H1 e s _ fun H2 e2 => h2 σ H2 (e.trans e2) (s.mono e2) Q fun H3 e3 => q H3 (e2.trans e3)⟩
theorem wd_or {k l : Bool} {rest : List Expr} (h : TD X T B a Γ H k) (g : k = false → WD X T B (.BoolOp .Or (b :: rest) pos) Γ H l) : WD X T B (.BoolOp .Or (a :: b :: rest) pos) Γ H (k || l) := by
  cases k with
  | true => exact ⟨tOr (wT X a) (fun σ H Q => ∀ wh pins s, Inv X pins σ H s → wpAny (model X.prog X.w) X.A (isTrue (.BoolOp .Or (b :: rest) pos) X.env wh) (TP X pins σ Q) X.xe s), pw_or (ptS X a) ⟨fun wh pins s _ _ _ I h => h wh pins s I⟩, fun σ H1 e s Q q => h σ H1 e s _ fun H2 e2 => q H2 e2⟩
  | false =>
    obtain ⟨t, h1, h2⟩ := g rfl
    exact ⟨_, pw_or (ptS X a) h1, fun σ H1 e s Q q => h σ H1 e s _ fun H2 e2 => h2 σ H2 (e.trans e2) (s.mono e2) Q fun H3 e3 => q H3 (e2.trans e3)⟩
/-- and as a value of bools -/
theorem pd_one {op} (h : PD X T B a Γ H d) : PD X T B (.BoolOp op [a] pos) Γ H d := fun σ H1 e s Q q => PE.w (pe_one (peS X a)) (h σ H1 e s Q q)
theorem pd_and {k l : Bool} {rest : List Expr} (h : PD X T B a Γ H (.b k)) (g : k = true → PD X T B (.BoolOp .And (b :: rest) pos) Γ H (.b l)) : PD X T B (.BoolOp .And (a :: b :: rest) pos) Γ H (.b (k && l)) := fun σ H1 e s Q q =>
  PE.w (pe_and (peS X a) (peS X _)) (h σ H1 e s _ fun v H2 e2 at2 => ⟨k, at2, by
    cases k with
    | true =>
      rw [if_pos rfl]
      exact g rfl σ H2 (e.trans e2) (s.mono e2) Q fun v H3 e3 at3 => q v H3 (e2.trans e3) at3
    | false =>
      rw [if_neg Bool.false_ne_true]
      exact q _ H2 e2 rfl⟩)
theorem pd_not {k : Bool} (h : PD X T B a Γ H (.b k)) : PD X T B (.UnaryOp .Not a pos) Γ H (.b (!k)) := fun σ H1 e s Q q =>
  PE.w (pe_not (peS X a)) (h σ H1 e s _ fun v H2 e2 at2 => ⟨k, at2, q _ H2 e2 rfl⟩)
theorem pd_if {k : Bool} (h : TD X T B c Γ H k) (h1 : k = true → PD X T B a Γ H d) (h2 : k = false → PD X T B b Γ H d) : PD X T B (.IfExp c a b pos) Γ H d := fun σ H1 e s Q q =>
  PE.w (pe_ifExp (ptS X c) (peS X a) (peS X b)) (h σ H1 e s _ fun H2 e2 => by
    cases k with
    | true =>
      rw [if_pos rfl]
      exact h1 rfl σ H2 (e.trans e2) (s.mono e2) Q fun v H3 e3 at3 => q v H3 (e2.trans e3) at3
    | false =>
      rw [if_neg Bool.false_ne_true]
      exact h2 rfl σ H2 (e.trans e2) (s.mono e2) Q fun v H3 e3 at3 => q v H3 (e2.trans e3) at3)
/-! arguments, displays -/
theorem ad_nil : AD X T B [] Γ H [] := fun σ H1 _ s Q q => PA.w pa_nil (q [] H1 (Exb.refl _) rfl)
theorem ad_cons {es : List Expr} (h : PD X T B e Γ H d) (hr : AD X T B es Γ H ds) (hs : starEach (e :: es) X.env = (false, eval e X.env) :: starEach es X.env := by rfl) : AD X T B (e :: es) Γ H (d :: ds) := fun σ H1 x s Q q =>
  PA.w (pa_cons (peS X e) (paS X es) hs) (h σ H1 x s _ fun v H2 e2 at2 => hr σ H2 (x.trans e2) (s.mono e2) _ fun vs H3 e3 at3 => q (v :: vs) H3 (e2.trans e3) ⟨v, vs, rfl, at2.mono e3, at3⟩)
/-- *e, a tuple -/
theorem ad_starT {es : List Expr} {ds1 : List D} {sp : Pos} (h : PD X T B e Γ H (.t ds1)) (hr : AD X T B es Γ H ds) (hs : starEach (.Starred e sp :: es) X.env = (true, eval e X.env) :: starEach es X.env := by rfl) : AD X T B (.Starred e sp :: es) Γ H (ds1 ++ ds) := fun σ H1 x s Q q =>
  PA.w (pa_star (peS X e) (paS X es) hs) (h σ H1 x s _ fun v H2 e2 ⟨a, vs, ev, ha, hds⟩ => ⟨a, vs, ev, .inl (SqT.of ha), hr σ H2 (x.trans e2) (s.mono e2) _ fun ws H3 e3 at3 => q (vs ++ ws) H3 (e2.trans e3) ((hds.mono e3).app at3)⟩)
/-- *e, a list -/
theorem ad_starL {es : List Expr} {ds1 : List D} {sp : Pos} (h : PR X T B e Γ H ds1) (hr : AD X T B es Γ H ds) (hs : starEach (.Starred e sp :: es) X.env = (true, eval e X.env) :: starEach es X.env := by rfl) : AD X T B (.Starred e sp :: es) Γ H (ds1 ++ ds) := fun σ H1 x s Q q =>
  PA.w (pa_star (peS X e) (paS X es) hs) (h σ H1 x s _ fun a vs H2 e2 ha hds => ⟨a, vs, rfl, .inr ha, hr σ H2 (x.trans e2) (s.mono e2) _ fun ws H3 e3 at3 => q (vs ++ ws) H3 (e2.trans e3) ((hds.mono e3).app at3)⟩)
theorem pd_tup {es : List Expr} {x1} (h : AD X T B es Γ H ds) (hl : ds.length ≤ sizeLine) : PD X T B (.Tuple es x1 pos) Γ H (.t ds) := fun σ H1 x s Q q =>
  PE.w (pe_tup (paS X es)) (h σ H1 x s _ fun vs H2 e2 at2 => ⟨by rw [at2.len]; exact hl, fun p hp => q _ _ (e2.trans (Ex.new hp)) ⟨p, vs, rfl, upd_same, at2.mono (Ex.new (T := T) hp)⟩⟩)
theorem pl_lst {es : List Expr} (h : AD X T B es Γ H ds) (hl : ds.length ≤ sizeLine) : PL X T B (.List es pos) Γ H ds := fun σ H1 x s Q q =>
  PE.w (pe_lst (paS X es)) (h σ H1 x s _ fun vs H2 e2 at2 => ⟨by rw [at2.len]; exact hl, fun p hp => q p vs _ (e2.free hp) (e2.trans (Ex.new hp)) upd_same (at2.mono (Ex.new (T := T) hp))⟩)
end
end G30
set_option Elab.async false
set_option linter.all false
set_option maxRecDepth 100000
set_option maxHeartbeats 4000000
set_option autoImplicit false
namespace G30
open PySem PySem.Spec PyProof.Rows L2 LamX StX SlX
/-! ### calls of the program's own defs -/
section
variable {X : Cx} {CX : CXT} {k : Nat} {f : Addr} {sp : Sp} {E : XK} {x : Str} {e : Expr} {es : List Expr} {t : TA} {p pos : Pos}
theorem pe_callR (F : FnR X.prog X.w X.K X.mg X.base CX k f sp) (hr : Room k X.A) (hk : PySem.W.keepIn X.K (.ref f) = true) (hg : Gl X x) (hm : X.mg x = some (.ref f)) (hx : Passes CX X E) (ha : PA X (e :: es) t) (hd : (x == ("__debug__" : Str)) = false := by decide)
    (he : starEach (e :: es) X.env = (false, eval e X.env) :: starEach es X.env := by rfl) (hpl : (backTo pos (starEach es X.env)).any (·.1) = false := by rfl) :
    PE X (.Call (.Name x p) (e :: es) [] pos) (fun σ H Q => t σ H fun vs H1 => sp vs H1 Q E) := by
  refine ⟨fun pins s σ H Q I h => ?_⟩
  refine wpAny_Call_Name_kw (ld_glob I hg hm ?_ hd)
  refine PySem.W.callWith_K (h₀ := X.base) I.ok.mod.kin hk (thn (ha.run pos pins s σ H _ I h) fun us s1 ⟨vs, H1, I1, r, q⟩ => ⟨I1.kIn, ?_⟩) he hpl
  exact wpAny_call (run_fnR F hr hx I1 r q)
end
/-- the def x of the module keeps the promise sp -/
def Has (P : Program) (w : World) (K : PySem.W.Frag) (mg : Str → Option Value) (base : Heap) (k : Nat) (x : Str) (sp : Sp) : Prop :=
  ∃ f, mg x = some (.ref f) ∧ PySem.W.keepIn K (.ref f) = true ∧ FnR P w K mg base CX0 k f sp
/-- a promise: data in, data out, nothing changed -/
def spD (T : List (Addr × Str)) (B : Addr) (R : List D → D → Prop) : Sp := fun vs H Q _ => ∃ ds d, AtL B H ds vs ∧ Tabs T H ∧ R ds d ∧ ∀ v H', Ex T H H' → At B H' d v → Q v H'
/-- data in, a new list out -/
def spL (T : List (Addr × Str)) (B : Addr) (R : List D → List D → Prop) : Sp := fun vs H Q _ => ∃ ds es, AtL B H ds vs ∧ Tabs T H ∧ R ds es ∧ ∀ p ws H', Nw H p → Ex T H H' → H' p = some (.lst ws) → AtL B H' es ws → Q (.ref p) H'
section
variable {X : Cx} {T : List (Addr × Str)} {B : Addr} {Γ Γ' : List (Option D)} {H H' : Hp} {d d1 d2 : D} {ds ds' : List D} {e a b c : Expr} {es : List Expr} {pos p : Pos} {i j k : Nat} {x : Str}
theorem pd_call {R : List D → D → Prop} (F : Has X.prog X.w X.K X.mg X.base j x (spD T B R)) (hr : Room k X.A) (ha : AD X T B (e :: es) Γ H ds) (hR : R ds d) (hjk : j ≤ k := by decide) (hg : Gl X x := by rfl) (hd : (x == ("__debug__" : Str)) = false := by decide)
    (he : starEach (e :: es) X.env = (false, eval e X.env) :: starEach es X.env := by rfl) (hpl : (backTo pos (starEach es X.env)).any (·.1) = false := by rfl) : PD X T B (.Call (.Name x p) (e :: es) [] pos) Γ H d := fun σ H1 x s Q q => by
  obtain ⟨f, hm, hk, F⟩ := F
  exact PE.w (pe_callR F (hr.mono hjk) hk hg hm pass0 (paS X (e :: es)) hd he hpl) (ha σ H1 x s _ fun vs H2 e2 at2 => ⟨ds, d, at2, e2.tabs s.tabs, hR, fun v H' e3 at3 => q v H' (e2.trans e3) at3⟩)
theorem pl_call {R : List D → List D → Prop} (F : Has X.prog X.w X.K X.mg X.base j x (spL T B R)) (hr : Room k X.A) (ha : AD X T B (e :: es) Γ H ds) (hR : R ds ds') (hjk : j ≤ k := by decide) (hg : Gl X x := by rfl) (hd : (x == ("__debug__" : Str)) = false := by decide)
    (he : starEach (e :: es) X.env = (false, eval e X.env) :: starEach es X.env := by rfl) (hpl : (backTo pos (starEach es X.env)).any (·.1) = false := by rfl) : PL X T B (.Call (.Name x p) (e :: es) [] pos) Γ H ds' := fun σ H1 x s Q q => by
  obtain ⟨f, hm, hk, F⟩ := F
  exact PE.w (pe_callR F (hr.mono hjk) hk hg hm pass0 (paS X (e :: es)) hd he hpl) (ha σ H1 x s _ fun vs H2 e2 at2 => ⟨ds, ds', at2, e2.tabs s.tabs, hR, fun p ws H' e3 e4 e5 at3 => q p ws H' (e2.free e3) (e2.trans e4) e5 at3⟩)
/-- a built-in function | type of data -/
def CD (T : List (Addr × Str)) (B : Addr) (r : List V → Hp → VK → Prop) (ds : List D) (d : D) (H : Hp) : Prop := ∀ vs H1, Ex T H H1 → AtL B H1 ds vs → ∀ Q : VK, (∀ v H2, Ex T H1 H2 → At B H2 d v → Q v H2) → r vs H1 Q
theorem pd_blt {id : String} {r : List V → Hp → VK → Prop} (hc : CallR X (.builtin id) r) (hm : X.mg x = none) (hv : bootBuiltins x = some (.builtin id)) (ha : AD X T B (e :: es) Γ H ds) (hr : CD T B r ds d H) (hg : Gl X x := by rfl) (hn : x ≠ "__name__" := by decide) (hdb : (x == ("__debug__" : Str)) = false := by decide)
    (he : starEach (e :: es) X.env = (false, eval e X.env) :: starEach es X.env := by rfl) (hpl : (backTo pos (starEach es X.env)).any (·.1) = false := by rfl) : PD X T B (.Call (.Name x p) (e :: es) [] pos) Γ H d := fun σ H1 x s Q q =>
  PE.w (pe_callB hc hg hm hv (paS X (e :: es)) hn hdb he hpl) (ha σ H1 x s _ fun vs H2 e2 at2 => hr vs H2 (x.trans e2) at2 Q fun v H3 e3 at3 => q v H3 (e2.trans e3) at3)
theorem pd_ty {id : String} {r : List V → Hp → VK → Prop} (hc : CallR X (.type id) r) (hm : X.mg x = none) (hv : bootBuiltins x = some (.type id)) (ha : AD X T B (e :: es) Γ H ds) (hr : CD T B r ds d H) (hg : Gl X x := by rfl) (hn : x ≠ "__name__" := by decide) (hdb : (x == ("__debug__" : Str)) = false := by decide)
    (he : starEach (e :: es) X.env = (false, eval e X.env) :: starEach es X.env := by rfl) (hpl : (backTo pos (starEach es X.env)).any (·.1) = false := by rfl) : PD X T B (.Call (.Name x p) (e :: es) [] pos) Γ H d := fun σ H1 x s Q q =>
  PE.w (pe_callTy hc hg hm hv (paS X (e :: es)) hn hdb he hpl) (ha σ H1 x s _ fun vs H2 e2 at2 => hr vs H2 (x.trans e2) at2 Q fun v H3 e3 at3 => q v H3 (e2.trans e3) at3)
/-- a built-in of one list -/
theorem pd_bltL {id : String} {r : List V → Hp → VK → Prop} (hc : CallR X (.builtin id) r) (hm : X.mg x = none) (hv : bootBuiltins x = some (.builtin id)) (ha : PR X T B e Γ H ds)
    (hr : ∀ p vs H1, SqL X.K H1 p vs → AtL B H1 ds vs → ∀ Q : VK, (∀ v H2, Ex T H1 H2 → At B H2 d v → Q v H2) → r [.ref p] H1 Q) (hg : Gl X x := by rfl) (hn : x ≠ "__name__" := by decide) (hdb : (x == ("__debug__" : Str)) = false := by decide)
    (he : starEach [e] X.env = (false, eval e X.env) :: starEach [] X.env := by rfl) (hpl : (backTo pos (starEach [] X.env)).any (·.1) = false := by rfl) : PD X T B (.Call (.Name x p) [e] [] pos) Γ H d := fun σ H1 x s Q q =>
  PE.w (pe_callB hc hg hm hv (pa_cons (peS X e) pa_nil he) hn hdb he hpl) (ha σ H1 x s _ fun p vs H2 e2 hl at2 => hr p vs H2 hl at2 Q fun v H3 e3 at3 => q v H3 (e2.trans e3) at3)
theorem pd_tyL {id : String} {r : List V → Hp → VK → Prop} (hc : CallR X (.type id) r) (hm : X.mg x = none) (hv : bootBuiltins x = some (.type id)) (ha : PR X T B e Γ H ds)
    (hr : ∀ p vs H1, SqL X.K H1 p vs → AtL B H1 ds vs → ∀ Q : VK, (∀ v H2, Ex T H1 H2 → At B H2 d v → Q v H2) → r [.ref p] H1 Q) (hg : Gl X x := by rfl) (hn : x ≠ "__name__" := by decide) (hdb : (x == ("__debug__" : Str)) = false := by decide)
    (he : starEach [e] X.env = (false, eval e X.env) :: starEach [] X.env := by rfl) (hpl : (backTo pos (starEach [] X.env)).any (·.1) = false := by rfl) : PD X T B (.Call (.Name x p) [e] [] pos) Γ H d := fun σ H1 x s Q q =>
  PE.w (pe_callTy hc hg hm hv (pa_cons (peS X e) pa_nil he) hn hdb he hpl) (ha σ H1 x s _ fun p vs H2 e2 hl at2 => hr p vs H2 hl at2 Q fun v H3 e3 at3 => q v H3 (e2.trans e3) at3)
theorem map_bools : ∀ {vs : List V} {bs : List Bool}, AtL B H (bs.map .b) vs → vs = bs.map V.bl := fun h => AtL.bools h
theorem pd_all {bs : List Bool} (hc : X.calm = true) (hm : X.mg "all" = none) (ha : PR X T B e Γ H (bs.map .b)) (hg : Gl X "all" := by rfl) (he : starEach [e] X.env = (false, eval e X.env) :: starEach [] X.env := by rfl) (hpl : (backTo pos (starEach [] X.env)).any (·.1) = false := by rfl) :
    PD X T B (.Call (.Name "all" p) [e] [] pos) Γ H (.b (bs.all id)) := pd_bltL (cr_all hc) hm (by decide +kernel) ha (fun q vs H1 hl hd Q k => ⟨q, bs, rfl, by rw [← AtL.bools hd]; exact hl, k _ H1 (Exb.refl _) rfl⟩) hg (by decide) (by decide) he hpl
theorem pd_any {bs : List Bool} (hc : X.calm = true) (hm : X.mg "any" = none) (ha : PR X T B e Γ H (bs.map .b)) (hg : Gl X "any" := by rfl) (he : starEach [e] X.env = (false, eval e X.env) :: starEach [] X.env := by rfl) (hpl : (backTo pos (starEach [] X.env)).any (·.1) = false := by rfl) :
    PD X T B (.Call (.Name "any" p) [e] [] pos) Γ H (.b (bs.any id)) := pd_bltL (cr_any hc) hm (by decide +kernel) ha (fun q vs H1 hl hd Q k => ⟨q, bs, rfl, by rw [← AtL.bools hd]; exact hl, k _ H1 (Exb.refl _) rfl⟩) hg (by decide) (by decide) he hpl
theorem pd_sumL {ns : List Int} (hc : X.calm = true) (hm : X.mg "sum" = none) (ha : PR X T B e Γ H (ns.map .i)) (hg : Gl X "sum" := by rfl) (he : starEach [e] X.env = (false, eval e X.env) :: starEach [] X.env := by rfl) (hpl : (backTo pos (starEach [] X.env)).any (·.1) = false := by rfl) :
    PD X T B (.Call (.Name "sum" p) [e] [] pos) Γ H (.i ns.sum) := pd_bltL (cr_sum hc) hm (by decide +kernel) ha (fun q vs H1 hl hd Q k => ⟨q, ns, rfl, by rw [← AtL.ints hd]; exact hl, k _ H1 (Exb.refl _) rfl⟩) hg (by decide) (by decide) he hpl
theorem pd_lenL (hm : X.mg "len" = none) (ha : PR X T B e Γ H ds) (hg : Gl X "len" := by rfl) (he : starEach [e] X.env = (false, eval e X.env) :: starEach [] X.env := by rfl) (hpl : (backTo pos (starEach [] X.env)).any (·.1) = false := by rfl) :
    PD X T B (.Call (.Name "len" p) [e] [] pos) Γ H (.i ds.length) := pd_bltL call_len_seq hm boot_len ha (fun q vs H1 hl hd Q k => ⟨q, vs, rfl, .inl hl, by rw [hd.len]; exact k _ H1 (Exb.refl _) rfl⟩) hg (by decide) (by decide) he hpl
theorem pd_lenT (hm : X.mg "len" = none) (ha : PD X T B e Γ H (.t ds)) (hg : Gl X "len" := by rfl) (he : starEach [e] X.env = (false, eval e X.env) :: starEach [] X.env := by rfl) (hpl : (backTo pos (starEach [] X.env)).any (·.1) = false := by rfl) :
    PD X T B (.Call (.Name "len" p) [e] [] pos) Γ H (.i ds.length) := pd_blt call_len_seq hm boot_len (ad_cons ha ad_nil he) (fun vs H1 _ h Q k => by
      obtain ⟨v, rfl, a, ws, rfl, ha, hw⟩ := AtL.single h
      exact ⟨a, ws, rfl, .inr (SqT.of ha), by rw [hw.len]; exact k _ H1 (Exb.refl _) rfl⟩) hg (by decide) (by decide) he hpl
/-- tuple(list) -/
theorem pd_tupleL (hm : X.mg "tuple" = none) (ha : PR X T B e Γ H ds) (hg : Gl X "tuple" := by rfl) (he : starEach [e] X.env = (false, eval e X.env) :: starEach [] X.env := by rfl) (hpl : (backTo pos (starEach [] X.env)).any (·.1) = false := by rfl) :
    PD X T B (.Call (.Name "tuple" p) [e] [] pos) Γ H (.t ds) := pd_tyL call_tuple_of hm (by decide +kernel) ha (fun q vs H1 hl hd Q k => ⟨q, vs, rfl, .inl ⟨hl, fun l hn => k _ _ (Ex.new hn) ⟨l, vs, rfl, upd_same, hd.mono (Ex.new (T := T) hn)⟩⟩⟩) hg (by decide) (by decide) he hpl
/-- tuple(tuple) -/
theorem pd_tupleT (hm : X.mg "tuple" = none) (ha : PD X T B e Γ H (.t ds)) (hg : Gl X "tuple" := by rfl) (he : starEach [e] X.env = (false, eval e X.env) :: starEach [] X.env := by rfl) (hpl : (backTo pos (starEach [] X.env)).any (·.1) = false := by rfl) :
    PD X T B (.Call (.Name "tuple" p) [e] [] pos) Γ H (.t ds) := pd_ty call_tuple_of hm (by decide +kernel) (ad_cons ha ad_nil he) (fun vs H1 _ h Q k => by
      obtain ⟨v, rfl, a, ws, rfl, ha, hw⟩ := AtL.single h
      exact ⟨a, ws, rfl, .inr ⟨SqT.of ha, k _ H1 (Exb.refl _) ⟨a, ws, rfl, ha, hw⟩⟩⟩) hg (by decide) (by decide) he hpl
/-- list(tuple) -/
theorem pl_listT (hm : X.mg "list" = none) (ha : PD X T B e Γ H (.t ds)) (hg : Gl X "list" := by rfl) (he : starEach [e] X.env = (false, eval e X.env) :: starEach [] X.env := by rfl) (hpl : (backTo pos (starEach [] X.env)).any (·.1) = false := by rfl) :
    PL X T B (.Call (.Name "list" p) [e] [] pos) Γ H ds := fun σ H1 x s Q q =>
  PE.w (pe_callTy call_list_of hg hm (by decide +kernel) (pa_cons (peS X e) pa_nil he) (by decide) (by decide) he hpl) (ha σ H1 x s _ fun v H2 e2 ⟨a, ws, ev, ha, hw⟩ => ⟨a, ws, by rw [ev], .inr (SqT.of ha), fun l hn => q l ws _ (e2.free hn) (e2.trans (Ex.new hn)) upd_same (hw.mono (Ex.new (T := T) hn))⟩)
/-! items, in -/
theorem pd_ixT {ds : List D} {z : Int} (ha : PD X T B a Γ H (.t ds)) (hb : PD X T B b Γ H (.i z)) (h : atI ds z = some d) (hs : PlainIx b := by exact fun _ _ => rfl) : PD X T B (.Subscript a b pos) Γ H d := fun σ H1 x s Q q =>
  PE.w (pe_ix ix_tup (peS X a) (peS X b) hs) (ha σ H1 x s _ fun v H2 e2 at2 => hb σ H2 (x.trans e2) (s.mono e2) _ fun u H3 e3 at3 => by
    obtain ⟨p, vs, ev, hp, hv⟩ := at2
    have hv3 := hv.mono e3
    unfold atI at h
    cases hj : ixN ds.length z with
    | none =>
      rw [hj] at h
      cases h
    | some j =>
      rw [hj] at h
      obtain ⟨w, hw, aw⟩ := hv3.at (j := j) h
      refine ⟨p, vs, z, w, ev, at3, SqT.of (e3.tup hp), ?_, q w H3 (e2.trans e3) aw⟩
      unfold atI
      rw [hv.len, hj]
      exact hw)
theorem pd_ixL {z : Int} (ha : PR X T B a Γ H ds) (hb : PD X T B b Γ H (.i z)) (h : atI ds z = some d) (hs : PlainIx b := by exact fun _ _ => rfl) : PD X T B (.Subscript a b pos) Γ H d := fun σ H1 x s Q q =>
  PE.w (pe_ix ix_list (peS X a) (peS X b) hs) (ha σ H1 x s _ fun p vs H2 e2 hl hv => hb σ H2 (x.trans e2) (s.mono e2) _ fun u H3 e3 at3 => by
    have hv3 := hv.mono e3
    unfold atI at h
    cases hj : ixN ds.length z with
    | none =>
      rw [hj] at h
      cases h
    | some j =>
      rw [hj] at h
      obtain ⟨w, hw, aw⟩ := hv3.at (j := j) h
      refine ⟨p, vs, z, w, rfl, at3, Ex.sql e3 hl, ?_, q w H3 (e2.trans e3) aw⟩
      unfold atI
      rw [hv.len, hj]
      exact hw)
theorem inV_ints (m : Int) : ∀ ns : List Int, inV (V.int m) (ns.map V.int) = decide (m ∈ ns)
  | [] => rfl
  | n :: ns => by
    have ih := inV_ints m ns
    unfold inV at ih ⊢
    rw [List.map_cons, List.any_cons, ih]
    show (decide (n = m) || decide (m ∈ ns)) = decide (m ∈ n :: ns)
    by_cases h : n = m
    · subst h; simp
    · have h2 : ¬ m = n := fun z => h z.symm
      simp [h, h2]
theorem flat_ints : ∀ ns : List Int, (ns.map V.int).all flatV = true
  | [] => rfl
  | n :: ns => by
    rw [List.map_cons, List.all_cons, flat_ints ns]
    rfl
theorem rd_in {neg : Bool} {K : PySem.W.Frag} {m : Int} {ns : List Int} : RD T B (rIn K neg) (.i m) (sD ns) (.b (if neg then !decide (m ∈ ns) else decide (m ∈ ns))) H := fun x y H1 _ h1 h2 Q q => by
  have h1 : x = .int m := h1
  obtain ⟨p, ey, hp⟩ := At.set h2
  subst h1 ey
  refine ⟨p, _, rfl, .inr (SqT.of hp), rfl, flat_ints ns, ?_⟩
  rw [inV_ints]
  exact q _ H1 (Exb.refl _) rfl
theorem pd_in {m : Int} {ns : List Int} (ha : PD X T B a Γ H (.i m)) (hb : PD X T B b Γ H (sD ns)) (hm : behindInMarks .In b = false := by with_unfolding_all rfl) : PD X T B (.Compare a [.In] [b] pos) Γ H (.b (decide (m ∈ ns))) := pd_cmp op_in_seq ha hb rd_in hm
theorem td_in {m : Int} {ns : List Int} (ha : PD X T B a Γ H (.i m)) (hb : PD X T B b Γ H (sD ns)) (hm : behindInMarks .In b = false := by with_unfolding_all rfl) : TD X T B (.Compare a [.In] [b] pos) Γ H (decide (m ∈ ns)) := td_cmp op_in_seq ha hb rd_in hm
theorem td_notin {m : Int} {ns : List Int} (ha : PD X T B a Γ H (.i m)) (hb : PD X T B b Γ H (sD ns)) (hm : behindInMarks .NotIn b = false := by with_unfolding_all rfl) : TD X T B (.Compare a [.NotIn] [b] pos) Γ H (!decide (m ∈ ns)) := td_cmp op_notIn_seq ha hb rd_in hm
/-! ### what is walked -/
def wI (X : Cx) (tg iter : Expr) : TI := fun σ H R => ∀ (pins : List (Addr × Obj)) (s : Shared), Inv X pins σ H s → wpAny (model X.prog X.w) X.A (eval iter X.env) (fun v s1 => wpAny (model X.prog X.w) X.A (pyIter v) (PIE X pins σ tg R) X.xe s1) X.xe s
theorem piS (X : Cx) (tg iter : Expr) : PI X tg iter (wI X tg iter) := ⟨fun pins s _ _ _ I h => h pins s I⟩
theorem PI.w {tg iter : Expr} {t : TI} (h : PI X tg iter t) {σ : L2.St} {R : It → Hp → Prop} (q : t σ H R) : wI X tg iter σ H R := fun pins s I => h.run pins s σ H R I q
/-- J walks the data ds, as long as only what S names is changed -/
def Wk (T : List (Addr × Str)) (S : Addr → Prop) (B : Addr) (J : It) (ds : List D) (H : Hp) : Prop := ∀ H', Exb T S H H' → (∀ i, i < ds.length → J.go i H') ∧ (∀ i, ds.length ≤ i → J.stop i H') ∧ ∀ (i : Nat) (d : D) (x : V) (H'' : Hp), ds[i]? = some d → J.yld i H' x H'' → Ex T H' H'' ∧ At B H'' d x
def ID (X : Cx) (T : List (Addr × Str)) (B : Addr) (S : Addr → Prop) (tg iter : Expr) (Γ : List (Option D)) (H : Hp) (ds : List D) : Prop := ∀ σ H1, Ex T H H1 → Sl T B H1 σ Γ → ∀ R : It → Hp → Prop, (∀ J H2, Ex T H1 H2 → Wk T S B J ds H2 → R J H2) → wI X tg iter σ H1 R
theorem ID.is {S : Addr → Prop} {tg iter : Expr} (h : ID X T B S tg iter Γ H ds) (k : ds = ds') : ID X T B S tg iter Γ H ds' := k ▸ h
theorem id_list {S : Addr → Prop} {tg iter : Expr} (h : PL X T B iter Γ H ds) (hS : ∀ b, S b → ¬ Nw H b) : ID X T B S tg iter Γ H ds := fun σ H1 x s R q =>
  PI.w (pi_list (peS X iter)) (h σ H1 x s _ fun p vs H2 hn e2 hp hv => ⟨p, rfl, ⟨vs, SqL.of hp⟩, q _ H2 e2 fun H' e3 => by
    have hp3 : H' p = some (.lst vs) := e3.keep p _ hp (fun z => hS p z (x.free hn)) fun ps z => by cases z
    refine ⟨fun i hi => ?_, fun i hi => ⟨vs, SqL.of hp3, by rw [hv.len]; exact hi⟩, fun i d y H'' hd hy => ?_⟩
    · have hi2 : i < vs.length := by rw [hv.len]; exact hi
      exact ⟨vs, vs[i], SqL.of hp3, List.getElem?_eq_getElem hi2⟩
    · obtain ⟨rfl, hy⟩ := hy
      obtain ⟨d', e1, a1⟩ := (hv.mono e3).get (hy vs (SqL.of hp3))
      rw [hd] at e1
      cases e1
      exact ⟨Exb.refl _, a1⟩⟩)
/-- some list that nothing changes -/
theorem id_listR {tg iter : Expr} (h : PR X T B iter Γ H ds) : ID X T B Nob tg iter Γ H ds := fun σ H1 x s R q =>
  PI.w (pi_list (peS X iter)) (h σ H1 x s _ fun p vs H2 e2 hp hv => ⟨p, rfl, ⟨vs, hp⟩, q _ H2 e2 fun H' e3 => by
    have hp3 : SqL X.K H' p vs := Ex.sql e3 hp
    refine ⟨fun i hi => ?_, fun i hi => ⟨vs, hp3, by rw [hv.len]; exact hi⟩, fun i d y H'' hd hy => ?_⟩
    · have hi2 : i < vs.length := by rw [hv.len]; exact hi
      exact ⟨vs, vs[i], hp3, List.getElem?_eq_getElem hi2⟩
    · obtain ⟨rfl, hy⟩ := hy
      obtain ⟨d', e1, a1⟩ := (hv.mono e3).get (hy vs hp3)
      rw [hd] at e1
      cases e1
      exact ⟨Exb.refl _, a1⟩⟩)
theorem id_tup {S : Addr → Prop} {tg iter : Expr} (h : PD X T B iter Γ H (.t ds)) : ID X T B S tg iter Γ H ds := fun σ H1 x s R q =>
  PI.w (pi_tup (peS X iter)) (h σ H1 x s _ fun v H2 e2 ⟨p, vs, ev, hp, hv⟩ => ⟨p, ev, ⟨vs, SqT.of hp⟩, q _ H2 e2 fun H' e3 => by
    have hp3 : H' p = some (.tup vs) := e3.tup hp
    refine ⟨fun i hi => ?_, fun i hi => ⟨vs, SqT.of hp3, by rw [hv.len]; exact hi⟩, fun i d y H'' hd hy => ?_⟩
    · have hi2 : i < vs.length := by rw [hv.len]; exact hi
      exact ⟨vs, vs[i], SqT.of hp3, List.getElem?_eq_getElem hi2⟩
    · obtain ⟨rfl, hy⟩ := hy
      obtain ⟨d', e1, a1⟩ := (hv.mono e3).get (hy vs (SqT.of hp3))
      rw [hd] at e1
      cases e1
      exact ⟨Exb.refl _, a1⟩⟩)
/-- the data of range -/
def rgD (lo : Int) (n : Nat) : List D := (List.range n).map fun (k : Nat) => D.i (lo + (k : Int))
theorem rgD_len (lo : Int) (n : Nat) : (rgD lo n).length = n := by unfold rgD; rw [List.length_map, List.length_range]
theorem rgD_at {lo : Int} {n i : Nat} {d : D} (h : (rgD lo n)[i]? = some d) : d = .i (lo + (i : Int)) := by
  unfold rgD at h
  rw [List.getElem?_map] at h
  by_cases hi : i < n
  · rw [List.getElem?_range hi] at h
    exact (Option.some.inj h).symm
  · rw [List.getElem?_eq_none (by rw [List.length_range]; omega)] at h
    cases h
theorem wk_range {S : Addr → Prop} {lo : Int} {n : Nat} : Wk T S B (Itr lo n) (rgD lo n) H := fun H' _ => by
  rw [rgD_len]
  refine ⟨fun i hi => hi, fun i hi => hi, fun i d x H'' hd hy => ?_⟩
  obtain ⟨rfl, rfl⟩ := hy
  exact ⟨Exb.refl _, by rw [rgD_at hd]; rfl⟩
theorem id_range1 {S : Addr → Prop} {tg : Expr} {n : Int} {p pos : Pos} (hm : X.mg "range" = none) (ha : PD X T B a Γ H (.i n)) (hz : -(2 ^ 62) ≤ n ∧ n < 2 ^ 62) (hg : Gl X "range" := by rfl) (hs : starEach [a] X.env = [(false, eval a X.env)] := by rfl) :
    ID X T B S tg (.Call (.Name "range" p) [a] [] pos) Γ H (rgD 0 n.toNat) := fun σ H1 x s R q =>
  PI.w (pi_range1 hg hm (pa_cons (peS X a) pa_nil hs) hs) (ha σ H1 x s _ fun v H2 e2 at2 => ⟨n, by rw [show v = .int n from at2], hz.1, hz.2, q _ H2 e2 wk_range⟩)
theorem id_range2 {S : Addr → Prop} {tg : Expr} {m n : Int} {p pos : Pos} (hm : X.mg "range" = none) (ha : PD X T B a Γ H (.i m)) (hb : PD X T B b Γ H (.i n)) (hz : -(2 ^ 62) ≤ m ∧ m < 2 ^ 62 ∧ -(2 ^ 62) ≤ n ∧ n < 2 ^ 62) (hg : Gl X "range" := by rfl)
    (hs : starEach [a, b] X.env = [(false, eval a X.env), (false, eval b X.env)] := by rfl) (hs2 : starEach [b] X.env = [(false, eval b X.env)] := by rfl) :
    ID X T B S tg (.Call (.Name "range" p) [a, b] [] pos) Γ H (rgD m (n - m).toNat) := fun σ H1 x s R q =>
  PI.w (pi_range2 hg hm (pa_cons (peS X a) (pa_cons (peS X b) pa_nil hs2) (by rw [hs, hs2])) hs hs2) (ha σ H1 x s _ fun v H2 e2 at2 => hb σ H2 (x.trans e2) (s.mono e2) _ fun u H3 e3 at3 => ⟨m, n, by rw [show v = .int m from at2, show u = .int n from at3], hz, q _ H3 (e2.trans e3) wk_range⟩)
/-- zip of two tuples -/
theorem wk_zipT {S : Addr → Prop} {K : PySem.W.Frag} {p q : Addr} {vs ws : List V} {d1s d2s : List D} (hp : H p = some (.tup vs)) (hv : AtL B H d1s vs) (hq : H q = some (.tup ws)) (hw : AtL B H d2s ws) : Wk T S B (RZ.ItzT K p q) ((d1s.zip d2s).map fun z => D.t [z.1, z.2]) H := fun H' e => by
  have hp' := e.tup hp
  have hq' := e.tup hq
  have l1 := hv.len
  have l2 := hw.len
  refine ⟨fun i hi => ?_, fun i hi => ?_, fun i d x H'' hd hy => ?_⟩
  · rw [List.length_map, List.length_zip] at hi
    have h1 : i < vs.length := by omega
    have h2 : i < ws.length := by omega
    exact ⟨vs, ws, vs[i], ws[i], SqT.of hp', SqT.of hq', List.getElem?_eq_getElem h1, List.getElem?_eq_getElem h2⟩
  · rw [List.length_map, List.length_zip] at hi
    exact ⟨vs, ws, SqT.of hp', SqT.of hq', by omega⟩
  · obtain ⟨t, x', y', rfl, ht, rfl, f1, f2⟩ := hy
    have g1 := f1 vs (SqT.of hp')
    have g2 := f2 ws (SqT.of hq')
    obtain ⟨a1, b1, c1⟩ := (hv.mono e).get g1
    obtain ⟨a2, b2, c2⟩ := (hw.mono e).get g2
    rw [List.getElem?_map, (List.getElem?_zip_eq_some (z := (a1, a2))).mpr ⟨b1, b2⟩] at hd
    have hd : D.t [a1, a2] = d := Option.some.inj hd
    rw [← hd]
    exact ⟨Ex.new ht, t, [x', y'], rfl, upd_same, x', [y'], rfl, c1.mono (Ex.new (T := T) ht), y', [], rfl, c2.mono (Ex.new (T := T) ht), rfl⟩
theorem id_zipT {S : Addr → Prop} {d1s d2s : List D} {p pos tpos : Pos} {elts : List Expr} {kk : Nat} (hm : X.mg "zip" = none) (ha : PD X T B a Γ H (.t d1s)) (hb : PD X T B b Γ H (.t d2s)) (hg : Gl X "zip" := by rfl)
    (hs : starEach [a, b] X.env = (false, eval a X.env) :: starEach [b] X.env := by rfl) (hs2 : starEach [b] X.env = [(false, eval b X.env)] := by rfl) (hpl : (backTo pos (starEach [b] X.env)).any (·.1) = false := by rfl) :
    ID X T B S (.Tuple elts kk tpos) (.Call (.Name "zip" p) [a, b] [] pos) Γ H ((d1s.zip d2s).map fun z => D.t [z.1, z.2]) := fun σ H1 x s R q =>
  PI.w (RZ.pi_zipA hg hm (pa_cons (peS X a) (pa_cons (peS X b) pa_nil hs2) hs) hs hpl) (ha σ H1 x s _ fun v H2 e2 ⟨p1, vs, ev, hp, hv⟩ => hb σ H2 (x.trans e2) (s.mono e2) _ fun u H3 e3 ⟨p2, ws, eu, hq, hw⟩ =>
    ⟨p1, p2, vs, ws, by rw [ev, eu], .inr ⟨SqT.of (e3.tup hp), SqT.of hq, q _ H3 (e2.trans e3) (wk_zipT (e3.tup hp) (hv.mono e3) hq hw)⟩⟩)
/-! ### targets -/
/-- a target's reading stores the data d -/
def Gd (T : List (Addr × Str)) (B : Addr) (g : TG) (is : List Nat) (d : D) (Γ Γ' : List (Option D)) : Prop := ∀ σ H v, Sl T B H σ Γ → At B H d v → ∀ Q : L2.St → Hp → Prop, (∀ σ', Sl T B H σ' Γ' → (∀ own : List Nat, (∀ i ∈ is, i ∈ own) → wipe σ' own = wipe σ own) → Q σ' H) → g v σ H Q
theorem wipe_set {σ : L2.St} {o : Option V} {i : Nat} : ∀ {own : List Nat}, i ∈ own → wipe (σ.set i o) own = wipe σ own
  | [], h => by cases h
  | v :: vs, h => by
    unfold wipe
    by_cases hv : i ∈ vs
    · rw [wipe_set hv]
    · have e : i = v := by
        rcases List.mem_cons.mp h with h | h
        · exact h
        · exact absurd h hv
      subst e
      have key : ∀ (ws : List Nat) (τ : L2.St), i ∉ ws → wipe (τ.set i o) ws = (wipe τ ws).set i o := by
        intro ws
        induction ws with
        | nil => intro τ _; rfl
        | cons w ws ih =>
          intro τ hw
          unfold wipe
          rw [ih τ (fun z => hw (List.mem_cons_of_mem _ z))]
          exact List.set_comm _ _ (fun z => hw (by rw [z]; exact List.mem_cons_self))
      rw [key vs σ hv, List.set_set]
theorem gd_name : Gd T B (gName i) [i] d Γ (Γ.set i (some d)) := fun σ H v s h Q q => q _ (s.set h) fun own ho => wipe_set (ho i List.mem_cons_self)
theorem gd_tup2 {K : PySem.W.Frag} : Gd T B (gTup K 2 (gCons (gName i) (gCons (gName j) gNil))) [i, j] (.t [d1, d2]) Γ ((Γ.set i (some d1)).set j (some d2)) := fun σ H v s h Q q => by
  obtain ⟨p, vs, ev, hp, hv⟩ := h
  obtain ⟨x, y, rfl, hx, hy⟩ := AtL.two hv
  refine ⟨p, _, ev, SqT.of hp, rfl, x, [y], rfl, y, [], rfl, rfl, q _ ((s.set hx).set hy) fun own ho => ?_⟩
  rw [wipe_set (ho j (List.mem_cons_of_mem _ List.mem_cons_self)), wipe_set (ho i List.mem_cons_self)]
theorem gd_tup3 {K : PySem.W.Frag} {l : Nat} {d3 : D} : Gd T B (gTup K 3 (gCons (gName i) (gCons (gName j) (gCons (gName l) gNil)))) [i, j, l] (.t [d1, d2, d3]) Γ (((Γ.set i (some d1)).set j (some d2)).set l (some d3)) := fun σ H v s h Q q => by
  obtain ⟨p, vs, ev, hp, hv⟩ := h
  obtain ⟨x, y, z, rfl, hx, hy, hz⟩ := AtL.three hv
  refine ⟨p, _, ev, SqT.of hp, rfl, x, [y, z], rfl, y, [z], rfl, z, [], rfl, rfl, q _ (((s.set hx).set hy).set hz) fun own ho => ?_⟩
  rw [wipe_set (ho l (List.mem_cons_of_mem _ (List.mem_cons_of_mem _ List.mem_cons_self))), wipe_set (ho j (List.mem_cons_of_mem _ List.mem_cons_self)), wipe_set (ho i List.mem_cons_self)]
end
end G30
set_option Elab.async false
set_option linter.all false
set_option maxRecDepth 100000
set_option maxHeartbeats 4000000
set_option autoImplicit false
namespace G30
open PySem PySem.Spec PyProof.Rows L2 LamX StX SlX
/-! ### comprehensions -/
abbrev bk (X : Cx) (scope : Scope) (s : Shared) (H0 : Hp) (C : Addr) (cl : List (Str × Addr)) (fp : List Addr) : Cx := X.blk s H0 scope (compEnvC scope cl C X.env) fp
def wEb (X : Cx) (scope : Scope) (e : Expr) : TE := fun σ H Q => ∀ s H0 C cl fp, wE (bk X scope s H0 C cl fp) e σ H Q
def wTb (X : Cx) (scope : Scope) (e : Expr) : TT := fun σ H Q => ∀ s H0 C cl fp, wT (bk X scope s H0 C cl fp) e σ H Q
theorem peB {X : Cx} {scope : Scope} {e : Expr} : ∀ (s : Shared) (H : Hp) (C : Addr) (cl : List (Str × Addr)) (fp : List Addr), PE (X.blk s H scope (compEnvC scope cl C X.env) fp) e (wEb X scope e) := fun s0 H0 C cl fp => ⟨fun pins s _ _ _ I h => h s0 H0 C cl fp pins s I⟩
theorem ptB {X : Cx} {scope : Scope} {e : Expr} : ∀ (s : Shared) (H : Hp) (C : Addr) (cl : List (Str × Addr)) (fp : List Addr), PT (X.blk s H scope (compEnvC scope cl C X.env) fp) e (wTb X scope e) := fun s0 H0 C cl fp => ⟨fun pins s _ _ _ I h => h s0 H0 C cl fp pins s I⟩
theorem wipe_wipe (σ : L2.St) (own : List Nat) : ∀ L : List Nat, (∀ i ∈ L, i ∈ own) → wipe (wipe σ L) own = wipe σ own
  | [], _ => rfl
  | v :: vs, h => by
    show wipe ((wipe σ vs).set v none) own = wipe σ own
    rw [wipe_set (h v List.mem_cons_self)]
    exact wipe_wipe σ own vs fun i hi => h i (List.mem_cons_of_mem _ hi)
theorem take_filter {α : Type} (p : α → Bool) : ∀ (xs : List α) (i : Nat) (h : i < xs.length), (xs.take (i + 1)).filter p = (xs.take i).filter p ++ (if p xs[i] = true then [xs[i]] else [])
  | [], i, h => by simp at h
  | a :: r, 0, h => by
    show ([a] : List α).filter p = [] ++ _
    rw [List.nil_append]
    by_cases q : p a = true
    · simp [q]
    · simp [q]
  | a :: r, i + 1, h => by
    have ih := take_filter p r i (by simpa using h)
    show (a :: r.take (i + 1)).filter p = (a :: r.take i).filter p ++ (if p (r[i]'(by simpa using h)) = true then [r[i]'(by simpa using h)] else [])
    rw [List.filter_cons, List.filter_cons, ih]
    by_cases q : p a = true
    · simp [q]
    · simp [q]
def blkB (N : List Str) (sc scope : Scope) (own : List (Str × Nat)) : Bool :=
  decide (scope.kind = .function) && (scope.names.all fun y => decide (scope.names.lookup y.1 = some y.2)) && (own.all fun p => decide (N[p.2]? = some p.1)) &&
  (scope.names.all fun y => !decide (y.2 = .free) || decide (sc.names.lookup y.1 = some .cell) || decide (sc.names.lookup y.1 = some .free)) &&
  (scope.names.all fun y => (!decide (y.2 = .local) && !decide (y.2 = .cell)) || decide (y.1 ∈ own.map (·.1)) || decide (y.1 ∉ N))
theorem blk_ok {N : List Str} {sc scope : Scope} {own : List (Str × Nat)} (h : blkB N sc scope own = true) : BlkOk N sc scope own := by
  unfold blkB at h
  obtain ⟨h, h5⟩ := Bool.and_eq_true_iff.mp h
  obtain ⟨h, h4⟩ := Bool.and_eq_true_iff.mp h
  obtain ⟨h, h3⟩ := Bool.and_eq_true_iff.mp h
  obtain ⟨h1, h2⟩ := Bool.and_eq_true_iff.mp h
  refine ⟨of_decide_eq_true h1, fun y hy => of_decide_eq_true (List.all_eq_true.mp h2 y hy), fun y hy => of_decide_eq_true (List.all_eq_true.mp h3 y hy), fun y hy hf => ?_, fun y hy hf => ?_⟩
  · have := List.all_eq_true.mp h4 y hy
    simp only [hf, decide_true, Bool.not_true, Bool.false_or, Bool.or_eq_true, decide_eq_true_eq] at this
    exact this
  · have := List.all_eq_true.mp h5 y hy
    rcases hf with hf | hf
    · simp only [hf, decide_true, Bool.not_true, Bool.false_and, Bool.false_or, Bool.or_eq_true, decide_eq_true_eq] at this
      exact this
    · simp only [hf, decide_true, Bool.not_true, Bool.and_false, Bool.false_or, Bool.or_eq_true, decide_eq_true_eq] at this
      exact this
section
variable {X : Cx} {T : List (Addr × Str)} {B : Addr} {Γ : List (Option D)} {H : Hp} {tg iter elt c : Expr} {ifs : List Expr} {scope : Scope} {own : List (Str × Nat)} {pos : Pos} {gt : TG} {is : List Nat}
/-- a comprehension's reading, told of data -/
theorem lc_run {α : Type} {xs : List α} {f g : α → D} {p : α → Bool} {Γ' : α → List (Option D)} {tt : TT} {σ : L2.St} {H1 : Hp} {Q : VK} (e : Ex T H H1) (s : Sl T B H1 σ Γ)
    (hi : ID X T B Nob tg iter Γ H (xs.map f)) (hT : ∀ a ∈ xs, Gd T B gt is (f a) (wipeG Γ (own.map (·.2))) (Γ' a)) (his : ∀ i ∈ is, i ∈ own.map (·.2))
    (ht : ∀ a ∈ xs, ∀ σ' H', Ex T H H' → Sl T B H' σ' (Γ' a) → ∀ R : Bool → Hp → Prop, (∀ H2, Ex T H' H2 → R (p a) H2) → tt σ' H' R)
    (he : ∀ a ∈ xs, p a = true → ∀ s0 H0 C cl fp, PD (bk X scope s0 H0 C cl fp) T B elt (Γ' a) H (g a)) (hz : xs.length < sizeLine)
    (q : ∀ (l : Addr) (vs : List V) (H2 : Hp), Nw H1 l → Ex T H1 H2 → H2 l = some (.lst vs) → AtL B H2 ((xs.filter p).map g) vs → Q (.ref l) H2) :
    tLc (wI X tg iter) gt tt (wEb X scope elt) (own.map (·.2)) σ H1 Q := by
  refine hi σ H1 e s _ fun J H2 e2 wk => fun Dl hD => ?_
  refine ⟨fun i m H' => m = xs.length - i ∧ i ≤ xs.length ∧ Ex T H2 H' ∧ ∃ acc, H' Dl = some (.lst acc) ∧ AtL B H' (((xs.take i).filter p).map g) acc, ⟨_, rfl, Nat.zero_le _, Ex.new hD, [], upd_same, rfl⟩, ?_⟩
  rintro i m H' ⟨rfl, hle, eH, acc, hacc, hat⟩
  obtain ⟨w1, w2, w3⟩ := wk H' eH
  rw [List.length_map] at w1 w2
  by_cases hlt : i < xs.length
  · have hmem : xs[i] ∈ xs := List.getElem_mem hlt
    refine .inr ⟨w1 i hlt, fun H'' => i + 1 ≤ xs.length ∧ Ex T H2 H'' ∧ ∃ acc, H'' Dl = some (.lst acc) ∧ AtL B H'' (((xs.take (i + 1)).filter p).map g) acc, fun H'' z => ⟨_, by omega, rfl, z⟩, fun x' H'' hy => ?_⟩
    obtain ⟨e3, at3⟩ := w3 i (f xs[i]) x' H'' (by rw [List.getElem?_map, List.getElem?_eq_getElem hlt]; rfl) hy
    have s3 : Sl T B H'' (wipe σ (own.map (·.2))) (wipeG Γ (own.map (·.2))) := (s.mono ((e2.trans eH).trans e3)).wipe _
    refine hT xs[i] hmem _ H'' x' s3 at3 _ fun σ' s4 hw => ⟨?_, ?_⟩
    · rw [hw _ his]
      exact wipe_wipe σ _ _ fun i hi => hi
    · refine ht xs[i] hmem σ' H'' (((e.trans e2).trans eH).trans e3) s4 _ fun H4 e4 => ?_
      have tf := take_filter p xs i hlt
      have hacc4 : H4 Dl = some (.lst acc) := Ex.lst e4 (Ex.lst e3 hacc)
      have hat4 := hat.mono (e3.trans e4)
      cases hp : p xs[i] with
      | true =>
        rw [if_pos rfl]
        intro s0 H0 C cl fp
        refine he xs[i] hmem hp s0 H0 C cl fp σ' H4 ((((e.trans e2).trans eH).trans e3).trans e4) (s4.mono e4) _ fun v H5 e5 at5 => ?_
        have hacc5 : H5 Dl = some (.lst acc) := Ex.lst e5 hacc4
        have em : Exb T (fun b => b = Dl) H5 (upd H5 Dl (.lst (acc ++ [v]))) := (Exb.refl H5).mut rfl hacc5 rfl (fun ps z => by cases z)
        refine ⟨acc, hacc5, ?_, ⟨hlt, ?_, acc ++ [v], upd_same, ?_⟩⟩
        · have l1 := hat.len
          rw [List.length_map] at l1
          have l2 := List.length_filter_le p (xs.take i)
          rw [List.length_take] at l2
          omega
        · exact ((Ex.to (S := fun b => b = Dl) (((eH.trans e3).trans e4).trans e5)).trans em).drop fun b hb => by rw [hb]; exact Nw.of hD
        · rw [tf, hp, if_pos rfl, List.map_append]
          exact (hat4.mono ((Ex.to (S := fun b => b = Dl) e5).trans em)).app (AtL.one (at5.mono em))
      | false =>
        rw [if_neg Bool.false_ne_true]
        refine ⟨hlt, (eH.trans e3).trans e4, acc, hacc4, ?_⟩
        rw [tf, hp, if_neg Bool.false_ne_true, List.append_nil]
        exact hat4
  · have e1 : i = xs.length := by omega
    subst e1
    refine .inl ⟨w2 _ (Nat.le_refl _), q Dl acc H' (e2.free hD) (e2.trans eH) hacc ?_⟩
    rw [List.take_length] at hat
    exact hat
/-- [elt for tg in iter if c] -/
theorem pl_lcI {α : Type} (xs : List α) (f g : α → D) (p : α → Bool) (Γ' : α → List (Option D)) (hc : X.calm = true) (hN : X.N.Nodup) (hi : ID X T B Nob tg iter Γ H (xs.map f)) (ok : BlkOk X.N X.env.scope scope own)
    (hg : ∀ (s : Shared) (H : Hp) (C : Addr) (cl : List (Str × Addr)) (fp : List Addr), PG (X.blk s H scope (compEnvC scope cl C X.env) fp) tg gt) (hT : ∀ a ∈ xs, Gd T B gt is (f a) (wipeG Γ (own.map (·.2))) (Γ' a)) (his : ∀ i ∈ is, i ∈ own.map (·.2))
    (ht : ∀ a ∈ xs, ∀ s0 H0 C cl fp, TD (bk X scope s0 H0 C cl fp) T B c (Γ' a) H (p a)) (he : ∀ a ∈ xs, p a = true → ∀ s0 H0 C cl fp, PD (bk X scope s0 H0 C cl fp) T B elt (Γ' a) H (g a)) (hz : xs.length < sizeLine)
    (hs : ∀ x, foldedSetIterable iter X.env x = pure x := by intro _; rfl) : PL X T B (.ListComp elt [⟨tg, iter, [c], 0⟩] scope pos) Γ H ((xs.filter p).map g) := fun σ H1 e s Q q =>
  PE.w (pe_lc hc hN (piS X tg iter) ok hg (fun s0 H0 C cl fp => pts_one (ptB s0 H0 C cl fp)) peB hs) (lc_run e s hi hT his (fun a ha σ' H' e' s' R r => fun s0 H0 C cl fp => ht a ha s0 H0 C cl fp σ' H' e' s' R r) he hz q)
/-- [elt for tg in iter] -/
theorem pl_lc {α : Type} (xs : List α) (f g : α → D) (Γ' : α → List (Option D)) (hc : X.calm = true) (hN : X.N.Nodup) (hi : ID X T B Nob tg iter Γ H (xs.map f)) (ok : BlkOk X.N X.env.scope scope own)
    (hg : ∀ (s : Shared) (H : Hp) (C : Addr) (cl : List (Str × Addr)) (fp : List Addr), PG (X.blk s H scope (compEnvC scope cl C X.env) fp) tg gt) (hT : ∀ a ∈ xs, Gd T B gt is (f a) (wipeG Γ (own.map (·.2))) (Γ' a)) (his : ∀ i ∈ is, i ∈ own.map (·.2))
    (he : ∀ a ∈ xs, ∀ s0 H0 C cl fp, PD (bk X scope s0 H0 C cl fp) T B elt (Γ' a) H (g a)) (hz : xs.length < sizeLine)
    (hs : ∀ x, foldedSetIterable iter X.env x = pure x := by intro _; rfl) : PL X T B (.ListComp elt [⟨tg, iter, [], 0⟩] scope pos) Γ H (xs.map g) := fun σ H1 e s Q q =>
  PE.w (pe_lc hc hN (piS X tg iter) ok hg (fun s0 H0 C cl fp => pts_nil) peB hs) (lc_run (p := fun _ => true) e s hi hT his (fun a ha σ' H' e' s' R r => r H' (Exb.refl _)) (fun a ha _ => he a ha) hz (by
    rw [List.filter_eq_self.mpr fun _ _ => rfl]
    exact q))
end
/-! ### statements -/
section
variable {X : Cx} {T : List (Addr × Str)} {B : Addr} {Γ : List (Option D)} {H H' : Hp} {d d1 d2 : D} {ds : List D} {e a b c : Expr} {st : Stmt} {rest body orelse : List Stmt} {pos pos' : Pos} {i j k : Nat} {x y : Str} {F : Ends}
theorem wS_cons {t : TS} (h : PS X st t) {σ : L2.St} (q : t { F with nx := fun σ' H' => wS X rest F σ' H' } σ H) : wS X (st :: rest) F σ H := PSs.w (pss_cons h (psS X rest)) q
theorem SD.mono (h : SD X T B rest Γ H F) (g : Ex T H H') : SD X T B rest Γ H' F := fun σ H1 x s => h σ H1 (g.trans x) s
theorem sd_nil (h : ∀ σ H1, Ex T H H1 → Sl T B H1 σ Γ → F.nx σ H1) : SD X T B [] Γ H F := fun σ H1 x s => PSs.w pss_nil (h σ H1 x s)
theorem sd_ret (h : PD X T B e Γ H d) (q : ∀ v H1, Ex T H H1 → At B H1 d v → F.rt v H1) : SD X T B (.Return (some e) pos :: rest) Γ H F := fun σ H1 x s =>
  wS_cons (ps_ret (peS X e)) (h σ H1 x s _ fun v H2 e2 at2 => q v H2 (x.trans e2) at2)
theorem sd_retL (h : PL X T B e Γ H ds) (q : ∀ p vs H1, Nw H p → Ex T H H1 → H1 p = some (.lst vs) → AtL B H1 ds vs → F.rt (.ref p) H1) : SD X T B (.Return (some e) pos :: rest) Γ H F := fun σ H1 x s =>
  wS_cons (ps_ret (peS X e)) (h σ H1 x s _ fun p vs H2 hn e2 hp hv => q p vs H2 (x.free hn) (x.trans e2) hp hv)
theorem sd_set (hN : X.N.Nodup) (hi : X.N[i]? = some x) (hx : Loc X.env.scope x) (h : PD X T B e Γ H d) (k : SD X T B rest (Γ.set i (some d)) H F) (hs : swapsWith e (some (.Name x pos')) pos.line X.env = pure false := by rfl)
    (hf : X.fn x = true ∨ X.env.scope.names.lookup x = some .local := by first | exact .inl rfl | exact .inr rfl) : SD X T B (.Assign [.Name x pos'] e pos :: rest) Γ H F := fun σ H1 x s =>
  wS_cons (ps_set hN hi hx (peS X e) hs hf) (h σ H1 x s _ fun v H2 e2 at2 => k _ H2 (x.trans e2) ((s.mono e2).set at2))
theorem sd_setL (hN : X.N.Nodup) (hi : X.N[i]? = some x) (hx : Loc X.env.scope x) (h : PL X T B e Γ H ds) (k : ∀ p vs H1, Nw H p → Ex T H H1 → H1 p = some (.lst vs) → AtL B H1 ds vs → SD X T B rest (Γ.set i (some (.r p))) H1 F) (hs : swapsWith e (some (.Name x pos')) pos.line X.env = pure false := by rfl)
    (hf : X.fn x = true ∨ X.env.scope.names.lookup x = some .local := by first | exact .inl rfl | exact .inr rfl) : SD X T B (.Assign [.Name x pos'] e pos :: rest) Γ H F := fun σ H1 x s =>
  wS_cons (ps_set hN hi hx (peS X e) hs hf) (h σ H1 x s _ fun p vs H2 hn e2 hp hv => k p vs H2 (x.free hn) (x.trans e2) hp hv _ H2 (Exb.refl _) ((s.mono e2).set rfl))
theorem sd_expr (h : PD X T B e Γ H d) (k : SD X T B rest Γ H F) (hs : swapsWith e none pos.line X.env = pure false := by rfl) : SD X T B (.Expr e pos :: rest) Γ H F := fun σ H1 x s =>
  wS_cons (ps_expr (peS X e) hs) (h σ H1 x s _ fun v H2 e2 _ => k σ H2 (x.trans e2) (s.mono e2))
/-- if: both ways go on to the rest by F's own nx -/
theorem sd_if {l : Bool} (h : TD X T B c Γ H l) (h1 : l = true → SD X T B body Γ H { F with nx := fun σ' H' => wS X rest F σ' H' }) (h2 : l = false → SD X T B orelse Γ H { F with nx := fun σ' H' => wS X rest F σ' H' }) : SD X T B (.If c body orelse pos :: rest) Γ H F := fun σ H1 x s =>
  wS_cons (ps_if (ptS X c) (psS X body) (psS X orelse)) (h σ H1 x s _ fun H2 e2 => by
    cases l with
    | true =>
      rw [if_pos rfl]
      exact h1 rfl σ H2 (x.trans e2) (s.mono e2)
    | false =>
      rw [if_neg Bool.false_ne_true]
      exact h2 rfl σ H2 (x.trans e2) (s.mono e2))
/-- a block's end goes on to the rest -/
theorem sd_on (k : SD X T B rest Γ H F) : SD X T B [] Γ H { F with nx := fun σ' H' => wS X rest F σ' H' } := sd_nil k
/-- if without else whose test is known to be false -/
theorem sd_skip (h : TD X T B c Γ H false) (k : SD X T B rest Γ H F) : SD X T B (.If c body [] pos :: rest) Γ H F := sd_if h (fun z => by cases z) fun _ => sd_on k
theorem sd_par (hc : X.calm = true) (hN : X.N.Nodup) (hi : X.N[i]? = some x) (hj : X.N[j]? = some y) (hij : i ≠ j) (hx : X.env.scope.names.lookup x = some .local) (hy : X.env.scope.names.lookup y = some .local) {px py pt : Pos} {kt k2 pt2}
    (ha : AD X T B [a, b] Γ H [d1, d2]) (hw : swappedStores [.Tuple [.Name x px, .Name y py] kt pt] (.Tuple [a, b] k2 pt2) X.env = pure (some [x, y])) (k : SD X T B rest ((Γ.set i (some d1)).set j (some d2)) H F)
    (hs : swapsWithSole [.Tuple [.Name x px, .Name y py] kt pt] (.Tuple [a, b] k2 pt2) pos.line X.env = pure false := by rfl) : SD X T B (.Assign [.Tuple [.Name x px, .Name y py] kt pt] (.Tuple [a, b] k2 pt2) pos :: rest) Γ H F := fun σ H1 x s =>
  wS_cons (ps_par hc hN hi hj hij hx hy (paS X [a, b]) hw hs) (ha σ H1 x s _ fun vs H2 e2 at2 => by
    obtain ⟨v, w, rfl, h1, h2⟩ := at2.two
    exact ⟨v, w, rfl, k _ H2 (x.trans e2) (((s.mono e2).set h1).set h2)⟩)
/-- a, b = e, list: the second one a new list -/
theorem sd_parL (hc : X.calm = true) (hN : X.N.Nodup) (hi : X.N[i]? = some x) (hj : X.N[j]? = some y) (hij : i ≠ j) (hx : X.env.scope.names.lookup x = some .local) (hy : X.env.scope.names.lookup y = some .local) {px py pt : Pos} {kt k2 pt2}
    (ha : PD X T B a Γ H d1) (hb : PL X T B b Γ H ds) (hw : swappedStores [.Tuple [.Name x px, .Name y py] kt pt] (.Tuple [a, b] k2 pt2) X.env = pure (some [x, y]))
    (k : ∀ p vs H1, Nw H p → Ex T H H1 → H1 p = some (.lst vs) → AtL B H1 ds vs → SD X T B rest ((Γ.set i (some d1)).set j (some (.r p))) H1 F)
    (hs : swapsWithSole [.Tuple [.Name x px, .Name y py] kt pt] (.Tuple [a, b] k2 pt2) pos.line X.env = pure false := by rfl)
    (he : starEach [a, b] X.env = (false, eval a X.env) :: starEach [b] X.env := by rfl) (he2 : starEach [b] X.env = (false, eval b X.env) :: starEach [] X.env := by rfl) : SD X T B (.Assign [.Tuple [.Name x px, .Name y py] kt pt] (.Tuple [a, b] k2 pt2) pos :: rest) Γ H F := fun σ H1 x s =>
  wS_cons (ps_par hc hN hi hj hij hx hy (pa_cons (peS X a) (pa_cons (peS X b) pa_nil he2) he) hw hs) (ha σ H1 x s _ fun v H2 e2 at2 => hb σ H2 (x.trans e2) (s.mono e2) _ fun p vs H3 hn e3 hp hv =>
    ⟨v, .ref p, rfl, k p vs H3 (x.free (e2.free hn)) ((x.trans e2).trans e3) hp hv _ H3 (Exb.refl _) (((s.mono (e2.trans e3)).set (at2.mono e3)).set rfl)⟩)
/-- x += e, ints -/
theorem sd_aug {m n : Int} (hN : X.N.Nodup) (hi : X.N[i]? = some x) (hx : Loc X.env.scope x) (hΓ : Γ[i]? = some (some (.i m))) (h : PD X T B e Γ H (.i n)) (k : SD X T B rest (Γ.set i (some (.i (m + n)))) H F)
    (hf : X.fn x = true ∨ X.env.scope.names.lookup x = some .local := by first | exact .inl rfl | exact .inr rfl) : SD X T B (.AugAssign (.Name x pos') .Add e pos :: rest) Γ H F := fun σ H1 x s =>
  wS_cons (ps_aug hN hi hx (peS X e) ip_add hf) (by
    obtain ⟨v, e1, e2⟩ := s.at_ i _ hΓ
    have e2 : v = .int m := e2
    subst e2
    exact ⟨_, e1, h σ H1 x s _ fun v H2 e2 at2 => ⟨m, n, rfl, at2, k _ H2 (x.trans e2) ((s.mono e2).set rfl)⟩⟩)
/-! a list of ours is changed -/
/-- xs.append(e) -/
theorem sd_append {o : Expr} {apos : Pos} {p : Addr} {vs : List V} (ho : PD X T B o Γ H (.r p)) (h : PD X T B e Γ H d) (hp : H p = some (.lst vs)) (hz : vs.length < sizeLine)
    (k : ∀ H1 v, Exb T (fun b => b = p) H H1 → At B H1 d v → H1 p = some (.lst (vs ++ [v])) → SD X T B rest Γ H1 F) (hs : swapsWith (.Call (.Attribute o "append" apos) [e] [] pos') none pos.line X.env = pure false := by rfl)
    (hbase : attributeBase o "append" X.env (eval o X.env) = eval o X.env := by rfl) (hline : (apos.endLine == pos'.line) = true := by rfl) (he : starEach [e] X.env = (false, eval e X.env) :: starEach [] X.env := by rfl) (hpl : (backTo pos' (starEach [] X.env)).any (·.1) = false := by rfl)
    (hfew : ((backTo pos' (starEach [e] X.env)).all (fun x => !x.1) && (backToKw pos' (keywordEach [] X.env)).all (fun x => x.1.isSome)
      && decide (([e] : List Expr).length + ([] : List Keyword).length + (if ([] : List Keyword).isEmpty then 0 else 1) < 30)) = true := by rfl) :
    SD X T B (.Expr (.Call (.Attribute o "append" apos) [e] [] pos') pos :: rest) Γ H F := fun σ H1 x s =>
  wS_cons (ps_expr (pe_bm PySem.F.plainAttrs_list PySem.F.slot_list_append PySem.F.type_list_append mt_append (peS X o) (pa_cons (peS X e) pa_nil he) hbase hfew hline he hpl) hs) (ho σ H1 x s _ fun u H2 e2 at2 => by
    have at2 : u = .ref p := at2
    subst at2
    have hp2 : H2 p = some (.lst vs) := Ex.lst (x.trans e2) hp
    refine ⟨.inl ⟨rfl, vs, SqL.of hp2⟩, ?_⟩
    refine h σ H2 (x.trans e2) (s.mono e2) _ fun v H3 e3 at3 => ⟨p, vs, v, rfl, rfl, Ex.lst e3 hp2, hz, ?_⟩
    have em : Exb T (fun b => b = p) H3 (upd H3 p (.lst (vs ++ [v]))) := (Exb.refl H3).mut rfl (Ex.lst e3 hp2) rfl (fun ps z => by cases z)
    exact k _ v ((Ex.to ((x.trans e2).trans e3)).trans em) (at3.mono em) upd_same σ _ (Exb.refl _) (s.mono ((Ex.to (e2.trans e3)).trans em)))
theorem gl_list : PGet X (rIxL X.K) := by
  intro pins s σ H x y v u Q I rx ry h
  obtain ⟨p, xs, i, z, rfl, rfl, hq, he, q⟩ := h
  cases rx
  obtain ⟨t, rfl⟩ := ry
  obtain ⟨its, r, pl, hz⟩ := I.list hq
  obtain ⟨j, h1, h2, h3, h4, h5⟩ := atI_get he
  obtain ⟨w, ew, rw'⟩ := r.get h2
  have hl := r.length
  have hn := line63
  have fin : EP X pins σ Q w s := ⟨z, H, I, rw', q⟩
  by_cases h0 : 0 ≤ i
  · have hj : i.toNat = j := by
      rw [seqIndex_of h0 h5] at h1
      exact Option.some.inj h1
    exact wpAny_getItem_list pl.isList h0 (by omega) (by rw [hj]; simpa using ew) fin
  · have hj : (i + (its.toArray.size : Int)).toNat = j := by
      rw [seqIndex_neg (by omega) h4] at h1
      rw [List.size_toArray, ← hl]
      exact Option.some.inj h1
    exact wpAny_getItem_list_neg pl.isList (by omega) (by rw [List.size_toArray] <;> omega) (by omega) (by rw [hj]; simpa using ew) fin
end
/-- Γ' knows no more than Γ -/
def Gle : List (Option D) → List (Option D) → Prop
  | [], [] => True
  | [], _ :: _ => False
  | _ :: _, [] => False
  | none :: a, _ :: b => Gle a b
  | some d :: a, e :: b => e = some d ∧ Gle a b
theorem gle : ∀ {Γ' Γ : List (Option D)}, Gle Γ' Γ → Γ'.length = Γ.length ∧ ∀ (i : Nat) (d : D), Γ'[i]? = some (some d) → Γ[i]? = some (some d)
  | [], [], _ => ⟨rfl, fun _ _ h => h⟩
  | [], _ :: _, h => by cases h
  | _ :: _, [], h => by cases h
  | none :: a, e :: b, h => by
    obtain ⟨h1, h2⟩ := gle (Γ' := a) (Γ := b) h
    refine ⟨by rw [List.length_cons, List.length_cons, h1], fun i d hd => ?_⟩
    match i, hd with
    | 0, hd => cases hd
    | i + 1, hd => exact h2 i d hd
  | some d :: a, e :: b, h => by
    obtain ⟨he, h⟩ := h
    obtain ⟨h1, h2⟩ := gle (Γ' := a) (Γ := b) h
    refine ⟨by rw [List.length_cons, List.length_cons, h1], fun i d' hd => ?_⟩
    match i, hd with
    | 0, hd => rw [he]; exact hd
    | i + 1, hd => exact h2 i d' hd
theorem Sl.gle {T : List (Addr × Str)} {B : Addr} {H : Hp} {σ : L2.St} {Γ Γ' : List (Option D)} (s : Sl T B H σ Γ) (h : Γ'.length = Γ.length ∧ ∀ (i : Nat) (d : D), Γ'[i]? = some (some d) → Γ[i]? = some (some d)) : Sl T B H σ Γ' := s.weak h.1 h.2
theorem wS_nil {X : Cx} {F : Ends} {σ : L2.St} {H : Hp} (h : F.nx σ H) : wS X [] F σ H := PSs.w pss_nil h
/-! ### for -/
section
variable {X : Cx} {T : List (Addr × Str)} {B : Addr} {Γ : List (Option D)} {H : Hp} {ds : List D} {S : Addr → Prop} {tg iter : Expr} {body rest : List Stmt} {pos : Pos} {F : Ends} {gt : TG} {is : List Nat}
/-- what a turn is to reach -/
abbrev turnTo (T : List (Addr × Str)) (B : Addr) (S : Addr → Prop) (H : Hp) (M : Nat → Hp → Prop) (Γs : Nat → List (Option D)) (k : Nat) : L2.St → Hp → Prop := fun σ H' => Exb T S H H' ∧ Sl T B H' σ (Γs k) ∧ M k H'
theorem sd_for {α : Type} (xs : List α) (f : α → D) (M : Nat → Hp → Prop) (Γs : Nat → List (Option D)) (Γ' : Nat → α → List (Option D)) (hp : PassesOwn (model X.prog X.w) X.A X.env X.xe) (hc : X.calm = true) (hi : ID X T B S tg iter Γ H (xs.map f)) (hg : PG X tg gt)
    (hT : ∀ k a, xs[k]? = some a → Gd T B gt is (f a) (Γs k) (Γ' k a)) (h0 : ∀ H1, Ex T H H1 → M 0 H1) (hΓ0 : (Γs 0).length = Γ.length ∧ ∀ (i : Nat) (d : D), (Γs 0)[i]? = some (some d) → Γ[i]? = some (some d))
    (hM : ∀ k H1 H2, M k H1 → Ex T H1 H2 → M k H2)
    (turn : ∀ H2, Ex T H H2 → ∀ k a H', xs[k]? = some a → Exb T S H2 H' → M k H' → SD X T B body (Γ' k a) H' { F with nx := turnTo T B S H2 M Γs (k + 1), ct := turnTo T B S H2 M Γs (k + 1), bk := fun σ' H' => wS X rest F σ' H' })
    (done : ∀ H', Exb T S H H' → M xs.length H' → SD X T B rest (Γs xs.length) H' F) (hs : ∀ x, foldedSetIterable iter X.env x = pure x := by intro _; rfl) : SD X T B (.For tg iter body [] pos :: rest) Γ H F := fun σ H1 e s => by
  refine wS_cons (ps_for hp hc (piS X tg iter) hg (psS X body) hs) ?_
  refine hi σ H1 e s _ fun J H2 e2 wk => ?_
  refine ⟨fun i m σ' H' => m = xs.length - i ∧ i ≤ xs.length ∧ turnTo T B S H2 M Γs i σ' H', ⟨_, rfl, Nat.zero_le _, Exb.refl _, (s.mono e2).weak hΓ0.1 hΓ0.2, h0 H2 (e.trans e2)⟩, ?_⟩
  rintro i m σ' H' ⟨rfl, hle, eH, sH, mH⟩
  obtain ⟨w1, w2, w3⟩ := wk H' eH
  rw [List.length_map] at w1 w2
  by_cases hlt : i < xs.length
  · have hd : xs[i]? = some xs[i] := List.getElem?_eq_getElem hlt
    refine .inr ⟨w1 i hlt, turnTo T B S H2 M Γs (i + 1), fun σ'' H'' z => ⟨_, by omega, rfl, hlt, z⟩, fun x' H'' hy => ?_⟩
    obtain ⟨e3, at3⟩ := w3 i (f xs[i]) x' H'' (by rw [List.getElem?_map, hd]; rfl) hy
    refine hT i xs[i] hd σ' H'' x' (sH.mono e3) at3 _ fun σ3 s3 _ => ?_
    exact turn H2 (e.trans e2) i xs[i] H'' hd (eH.trans (Ex.to e3)) (hM i H' H'' mH e3) σ3 H'' (Exb.refl _) s3
  · have e1 : i = xs.length := by omega
    subst e1
    exact .inl ⟨w2 _ (Nat.le_refl _), done H' ((Ex.to (e.trans e2)).trans eH) mH σ' H' (Exb.refl _) sH⟩
/-- the same, the frame told by a state of ours -/
abbrev turnToE {β : Type} (T : List (Addr × Str)) (B : Addr) (S : Addr → Prop) (H : Hp) (M : Nat → β → Hp → Prop) (Γs : Nat → β → List (Option D)) (k : Nat) : L2.St → Hp → Prop := fun σ H' => ∃ b, Exb T S H H' ∧ Sl T B H' σ (Γs k b) ∧ M k b H'
theorem sd_forE {α β : Type} (xs : List α) (f : α → D) (M : Nat → β → Hp → Prop) (Γs : Nat → β → List (Option D)) (Γ' : Nat → α → β → List (Option D)) (b0 : β) (hp : PassesOwn (model X.prog X.w) X.A X.env X.xe) (hc : X.calm = true) (hi : ID X T B S tg iter Γ H (xs.map f)) (hg : PG X tg gt)
    (hT : ∀ k a b, xs[k]? = some a → Gd T B gt is (f a) (Γs k b) (Γ' k a b)) (h0 : M 0 b0 H) (hΓ0 : (Γs 0 b0).length = Γ.length ∧ ∀ (i : Nat) (d : D), (Γs 0 b0)[i]? = some (some d) → Γ[i]? = some (some d))
    (hM : ∀ k b H1 H2, M k b H1 → Ex T H1 H2 → M k b H2)
    (turn : ∀ H2, Ex T H H2 → ∀ k a b H', xs[k]? = some a → Exb T S H2 H' → M k b H' → SD X T B body (Γ' k a b) H' { F with nx := turnToE T B S H2 M Γs (k + 1), ct := turnToE T B S H2 M Γs (k + 1), bk := fun σ' H' => wS X rest F σ' H' })
    (done : ∀ b H', Exb T S H H' → M xs.length b H' → SD X T B rest (Γs xs.length b) H' F) (hs : ∀ x, foldedSetIterable iter X.env x = pure x := by intro _; rfl) : SD X T B (.For tg iter body [] pos :: rest) Γ H F := fun σ H1 e s => by
  refine wS_cons (ps_for hp hc (piS X tg iter) hg (psS X body) hs) ?_
  refine hi σ H1 e s _ fun J H2 e2 wk => ?_
  refine ⟨fun i m σ' H' => m = xs.length - i ∧ i ≤ xs.length ∧ turnToE T B S H2 M Γs i σ' H', ⟨_, rfl, Nat.zero_le _, b0, Exb.refl _, (s.mono e2).weak hΓ0.1 hΓ0.2, hM _ _ _ _ h0 (e.trans e2)⟩, ?_⟩
  rintro i m σ' H' ⟨rfl, hle, b, eH, sH, mH⟩
  obtain ⟨w1, w2, w3⟩ := wk H' eH
  rw [List.length_map] at w1 w2
  by_cases hlt : i < xs.length
  · have hd : xs[i]? = some xs[i] := List.getElem?_eq_getElem hlt
    refine .inr ⟨w1 i hlt, turnToE T B S H2 M Γs (i + 1), fun σ'' H'' z => ⟨_, by omega, rfl, hlt, z⟩, fun x' H'' hy => ?_⟩
    obtain ⟨e3, at3⟩ := w3 i (f xs[i]) x' H'' (by rw [List.getElem?_map, hd]; rfl) hy
    refine hT i xs[i] b hd σ' H'' x' (sH.mono e3) at3 _ fun σ3 s3 _ => ?_
    exact turn H2 (e.trans e2) i xs[i] b H'' hd (eH.trans (Ex.to e3)) (hM i b H' H'' mH e3) σ3 H'' (Exb.refl _) s3
  · have e1 : i = xs.length := by omega
    subst e1
    exact .inl ⟨w2 _ (Nat.le_refl _), done b H' ((Ex.to (e.trans e2)).trans eH) mH σ' H' (Exb.refl _) sH⟩
/-- a turn's end -/
theorem sd_turn {H2 : Hp} {M : Nat → Hp → Prop} {Γs : Nat → List (Option D)} {k : Nat} (e : Exb T S H2 H) (hM : ∀ H1, Ex T H H1 → M k H1) (hΓ : (Γs k).length = Γ.length ∧ ∀ (i : Nat) (d : D), (Γs k)[i]? = some (some d) → Γ[i]? = some (some d))
    {ct bk : L2.St → Hp → Prop} {rt : V → Hp → Prop} : SD X T B [] Γ H { F with nx := turnTo T B S H2 M Γs k, ct := ct, bk := bk } :=
  sd_nil fun σ H1 x s => ⟨e.trans (Ex.to x), s.weak hΓ.1 hΓ.2, hM H1 x⟩
end
end G30
set_option Elab.async false
set_option linter.all false
set_option maxRecDepth 100000
set_option maxHeartbeats 0
namespace G30
open PySem PySem.Spec PyProof.Rows L2
def top (i : Nat) : Stmt := PySem.Challenge.pw_ifthenbooks_k89_whole_counts_ties.main.body.getD i (.Pass ⟨0, 0, 0, 0⟩)
def dF (i : Nat) (at_ name : Str) : He.DefD := ⟨(at_, none), name, name, defArgs (top i), defBody (top i), defScope (top i), [], []⟩
def dM (i j : Nat) (C name qual : Str) : He.DefD := ⟨(C, some name), name, qual, defArgs (inClass (top i) j), defBody (inClass (top i) j), defScope (inClass (top i) j), [], []⟩
def fn0 : List He.DefD := [dF 14 "is_integer" "is_integer", dF 15 "is_set" "is_set", dF 16 "is_rule" "is_rule", dF 17 "is_within" "is_within", dF 18 "joined" "joined", dF 19 "in_order" "in_order", dF 20 "sets_of" "sets_of", dF 21 "closure" "closure", dF 22 "is_shut" "is_shut", dM 23 1 "Book" "__init__" "Book.__init__", dM 23 6 "Book" "full" "Book.full", dM 23 8 "Book" "all_sets" "Book.all_sets", dM 23 9 "Book" "closed_sets" "Book.closed_sets", dF 24 "whole_of" "whole_of", dF 25 "check_book" "check_book", dF 26 "check_set" "check_set", dF 27 "check_rule" "check_rule", dF 30 "check_goal" "check_goal", dF 31 "is_enough" "is_enough", dF 32 "counts" "counts", dM 33 0 "Spans" "__init__" "Spans.__init__", dF 34 "spans_of" "spans_of", dF 35 "spans" "spans", dF 36 "swings_of" "swings_of", dF 37 "swings" "swings", dF 38 "product_of" "product_of", dF 39 "lowest" "lowest", dF 40 "shares" "shares", dF 41 "check_chances" "check_chances", dF 42 "chance" "chance"]
def fn1 : List He.DefD := [dF 43 "alternating" "alternating", dF 45 "follows" "follows", dF 47 "ways_to" "ways_to", dF 48 "check_mark" "check_mark", dF 49 "ways" "ways", dF 51 "with_mark_exchange" "with_mark", dM 53 0 "Ranks" "__init__" "Ranks.__init__", dM 54 0 "Oneway" "__init__" "Oneway.__init__", dF 55 "oneway_at" "oneway_at", dF 56 "rank_of" "rank_of", dF 57 "judge_exchange" "judge_exchange", dF 58 "has_exchange" "has_exchange", dF 59 "check_exchange" "check_exchange", dF 60 "rank" "rank", dF 61 "bases" "bases", dF 63 "with_mark_geometry" "with_mark", dF 65 "without_mark" "without_mark", dF 66 "step_from" "step_from", dF 67 "exchange_at" "exchange_at", dM 68 0 "Geometry" "__init__" "Geometry.__init__", dM 69 0 "Exchange" "__init__" "Exchange.__init__", dF 70 "judge_geometry" "judge_geometry", dF 71 "is_geometry" "is_geometry", dF 72 "ends_of" "ends_of", dF 73 "ends" "ends", dF 75 "_law_draw" "_law_draw", dF 76 "_law_cell_at" "_law_cell_at", dF 77 "_law_digits" "_law_digits", dF 78 "_law_take" "_law_take", dF 79 "_law_pool" "_law_pool"]
def fn2 : List He.DefD := [dF 80 "_law_sets" "_law_sets", dF 81 "_law_within" "_law_within", dF 82 "_law_set" "_law_set", dF 83 "_law_rules" "_law_rules", dF 84 "_law_joined" "_law_joined", dF 85 "_law_rules_of" "_law_rules_of", dF 86 "_law_choose" "_law_choose", dF 87 "_law_counted" "_law_counted", dF 88 "_law_spans_right" "_law_spans_right", dF 89 "_law_ways_right" "_law_ways_right", dF 90 "_law_chances_right" "_law_chances_right", dF 91 "_law_shares_right" "_law_shares_right", dF 92 "_law_whole_right" "_law_whole_right", dF 93 "_law_closures_right" "_law_closures_right", dF 94 "law" "law"]
def fn : List He.DefD := fn0 ++ fn1 ++ fn2
def fa0 : List He.Fa := [.glo "is_integer", .glo "is_set", .glo "is_rule", .glo "is_within", .glo "joined", .glo "in_order", .glo "sets_of", .glo "closure", .glo "is_shut", .glo "whole_of", .glo "check_book", .glo "check_set", .glo "check_rule", .glo "check_goal", .glo "is_enough", .glo "counts", .glo "spans_of", .glo "spans", .glo "swings_of", .glo "swings", .glo "product_of", .glo "lowest", .glo "shares", .glo "check_chances", .glo "chance", .glo "alternating", .glo "follows", .glo "ways_to", .glo "check_mark", .glo "ways"]
def fa1 : List He.Fa := [.glo "with_mark_exchange", .glo "oneway_at", .glo "rank_of", .glo "judge_exchange", .glo "has_exchange", .glo "check_exchange", .glo "rank", .glo "bases", .glo "with_mark_geometry", .glo "without_mark", .glo "step_from", .glo "exchange_at", .glo "judge_geometry", .glo "is_geometry", .glo "ends_of", .glo "ends", .glo "_law_draw", .glo "_law_cell_at", .glo "_law_digits", .glo "_law_take", .glo "_law_pool", .glo "_law_sets", .glo "_law_within", .glo "_law_set", .glo "_law_rules", .glo "_law_joined", .glo "_law_rules_of", .glo "_law_choose", .glo "_law_counted", .glo "_law_spans_right"]
def fa2 : List He.Fa := [.glo "_law_ways_right", .glo "_law_chances_right", .glo "_law_shares_right", .glo "_law_whole_right", .glo "_law_closures_right", .glo "law", .glo "Book", .glo "Spans", .glo "Ranks", .glo "Oneway", .glo "Geometry", .glo "Exchange", .free "abs", .free "all", .free "any", .free "bool", .free "dict", .free "enumerate", .free "int", .free "isinstance", .free "len", .free "list", .free "range", .free "sorted", .free "sum", .free "tuple", .free "zip", .int "MOST_MARKS" 5, .int "MOST_RULES" 16, .int "MOST_CHANCE" 12]
def fa3 : List He.Fa := [.mkr "Book", .mkr "Spans", .mkr "Ranks", .mkr "Oneway", .mkr "Geometry", .mkr "Exchange", .cls "Spans", .cls "Ranks", .cls "Oneway", .cls "Geometry", .cls "Exchange", .noat "Spans" "rows", .noat "Ranks" "table", .noat "Oneway" "closed", .noat "Oneway" "pair", .noat "Geometry" "steps", .noat "Exchange" "closed", .noat "Exchange" "pair", .meth "Book" "full", .meth "Book" "all_sets", .meth "Book" "closed_sets"]
def fa : List He.Fa := fa0 ++ fa1 ++ fa2 ++ fa3
def loose0 : List PySem.Str := ["_wall", "BookError", "BadBook", "BadSet", "BadRule", "BadIndex", "BadMark", "NotClosed", "NotExchange", "BadChances", "MOST_MARKS", "MOST_RULES", "is_integer", "is_set", "is_rule", "is_within", "joined", "in_order", "sets_of", "closure", "is_shut", "Book", "whole_of", "check_book", "check_set", "check_rule", "MOST_CHANCE", "check_goal", "is_enough", "counts"]
def loose1 : List PySem.Str := ["Spans", "spans_of", "spans", "swings_of", "swings", "product_of", "lowest", "shares", "check_chances", "chance", "alternating", "follows", "ways_to", "check_mark", "ways", "with_mark", "with_mark_exchange", "Ranks", "Oneway", "oneway_at", "rank_of", "judge_exchange", "has_exchange", "check_exchange", "rank", "bases", "with_mark_geometry", "without_mark", "step_from", "exchange_at"]
def loose2 : List PySem.Str := ["Geometry", "Exchange", "judge_geometry", "is_geometry", "ends_of", "ends", "_law_draw", "_law_cell_at", "_law_digits", "_law_take", "_law_pool", "_law_sets", "_law_within", "_law_set", "_law_rules", "_law_joined", "_law_rules_of", "_law_choose", "_law_counted", "_law_spans_right", "_law_ways_right", "_law_chances_right", "_law_shares_right", "_law_whole_right", "_law_closures_right"]
def loose : List PySem.Str := loose0 ++ loose1 ++ loose2
def tf : List He.Defn := [("in_order", none), ("_law_sets", none)]
def clsB (K : PySem.W.Frag) (C : Addr) : Bool := He.eqO (PySem.W.findIn K (.ref C) "__class__") (some (some (.builtin "object.__class__"))) && (He.eqO (PySem.W.specialIn K (.builtin "object.__class__") "__get__") (some (some (.builtin "getset_descriptor.__get__"))) &&
  (decide (PySem.W.takesIn K (.builtin "object.__class__") = some true) && decide (PySem.W.mroIn K C (.type "object") = some true)))
def sclsB (K : PySem.W.Frag) (C : Addr) : Bool := PySem.W.plainGet K C Str.empty && (PySem.W.isClsIn K C && (PySem.W.plainOver K C && He.eqO (PySem.W.findIn K (.ref C) "__setattr__") (some (some (.builtin "object.__setattr__")))))
def slotB (K : PySem.W.Frag) (C : Addr) (f : Str) (i : Nat) : Bool := match PySem.W.findIn K (.ref C) f with
  | some (some (.ref p)) => He.eqO (PySem.W.specialIn K (.ref p) "__get__") (some (some (.builtin "member_descriptor.__get__"))) && (decide (PySem.W.takesIn K (.ref p) = some true) && (decide (PySem.W.typeIn K (.ref p) = some (.type "member_descriptor")) && decide (PySem.W.slotIn K p C = some i)))
  | _ => false
def kitB1 (K : PySem.W.Frag) (x y : Str) (b : Bool) : Bool := decide (PySem.W.kitOne K (.ref (He.ga K x)) (.ref (He.ga K y)) = some b)
def ex (K : PySem.W.Frag) : Bool := (sclsB K (He.ga K "Book") && (slotB K (He.ga K "Book") "marks" 0 && slotB K (He.ga K "Book") "rules" 1)) && (["Book", "Ranks", "Oneway", "Geometry", "Exchange"].all (fun x => clsB K (He.ga K x)) &&
  (kitB1 K "Book" "Book" true && (kitB1 K "Ranks" "Ranks" true && (kitB1 K "Oneway" "Ranks" false && (kitB1 K "Geometry" "Geometry" true && (kitB1 K "Exchange" "Geometry" false && !decide ((He.cT K ("in_order", none)).2 = (He.cT K ("_law_sets", none)).2)))))))
abbrev R : PySem.W.OpenRow := PySem.W.OpenLaw.row PySem.Challenge.rw_ifthenbooks_k89_whole_counts_ties
abbrev qv : Program := PySem.W.view R.prog [94]
/-! ### the Hook, over a list of addresses of its own -/
def refK (o : Obj) : List Addr := match o.data with
  | .dict es _ => es.toList.flatMap fun e => He.refV e.val
  | .func fd => He.refV fd.code
  | .cls cd => cd.ns :: cd.mro.flatMap He.refV
  | .fields vs => He.refV (vs.getD 11 .none)
  | _ => []
def stepK (g : Addr → Option Obj) (as : List Addr) : List Addr := as.flatMap fun a => match g a with
  | some o => refK o
  | none => []
def asK (g : Addr → Option Obj) : Nat → List Addr → List Addr
  | 0, l => l
  | n + 1, l => l ++ asK g n (stepK g l)
def obsY (n : Nat) (fa : List He.Fa) (fn : List He.DefD) (tf : List He.Defn) (ex : PySem.W.Frag → Bool) (g : Addr → Option Obj) : He.AlX := (He.obsT fa fn [] (He.frT g (asK g n [mainGlobals])), ex (He.frT g (asK g n [mainGlobals])) && He.tabsB g tf (He.frT g (asK g n [mainGlobals])))
theorem saysY_of {n : Nat} {fa : List He.Fa} {fn : List He.DefD} {tf : List He.Defn} {ex : PySem.W.Frag → Bool} {w : World} {h : Heap} (e : obsY n fa fn tf ex h.get? = He.valX fn [] w) : He.SaysX fa fn [] tf ex w h (He.frT h.get? (asK h.get? n [mainGlobals])) := by
  have e1 : He.obsT fa fn [] (He.frT h.get? (asK h.get? n [mainGlobals])) = He.valT fn [] w := congrArg (fun z : He.AlX => z.1) e
  have e2 : (ex (He.frT h.get? (asK h.get? n [mainGlobals])) && He.tabsB h.get? tf (He.frT h.get? (asK h.get? n [mainGlobals]))) = true := congrArg (fun z : He.AlX => z.2) e
  obtain ⟨h1, h2⟩ := He.ba e2
  have key : ∀ p ∈ tf, PySem.W.codeHdIn (He.frT h.get? (asK h.get? n [mainGlobals])) (He.cT (He.frT h.get? (asK h.get? n [mainGlobals])) p).1 (He.cT (He.frT h.get? (asK h.get? n [mainGlobals])) p).2 = true ∧ ∃ o, h.get? (He.cT (He.frT h.get? (asK h.get? n [mainGlobals])) p).2 = some o ∧ He.emptyTab o = true := fun p hp => by
    obtain ⟨h3, h4⟩ := He.ba (List.all_eq_true.mp h2 p hp)
    refine ⟨h3, ?_⟩
    cases q : h.get? (He.cT (He.frT h.get? (asK h.get? n [mainGlobals])) p).2 with
    | none =>
      rw [q] at h4
      cases h4
    | some o =>
      rw [q] at h4
      exact ⟨o, rfl, h4⟩
  exact ⟨e1, h1, fun p hp => (key p hp).1, fun p hp => by
    obtain ⟨_, o, q, z⟩ := key p hp
    exact He.frT_none q z, fun p hp => by
    obtain ⟨_, o, q, z⟩ := key p hp
    rw [q, He.emptyTab_eq z]⟩
def hookY (n : Nat) (fa : List He.Fa) (fn : List He.DefD) (tf : List He.Defn) (ex : PySem.W.Frag → Bool) : PySem.W.Hook where
  α := He.AlX
  obs := fun s => obsY n fa fn tf ex s.heap.get?
  val := fun w => He.valX fn [] w
  says := fun w h => ∃ K : PySem.W.Frag, K.In h ∧ He.SaysX fa fn [] tf ex w h K
  of := fun _ _ e => ⟨_, He.frT_in, saysY_of e⟩
  keeps := fun _ _ _ ⟨K, hK, c⟩ k => ⟨K, PySem.W.Frag.In.keeps hK k, ⟨c.t, c.more, c.hd, c.out, fun p hp => k _ _ (c.empty p hp)⟩⟩
theorem obsY_eq {n : Nat} {fa : List He.Fa} {fn : List He.DefD} {tf : List He.Defn} {ex : PySem.W.Frag → Bool} {g : Addr → Option Obj} {s : Shared} (h : ∀ a, g a = s.heap.get? a) : obsY n fa fn tf ex g = (hookY n fa fn tf ex).obs s := by
  have e : g = s.heap.get? := funext h
  rw [e] <;> rfl
abbrev hk : PySem.W.Hook := hookY 4 fa fn tf ex
def ob (s : PySem.W.SharedT) : He.AlX := obsY 4 fa fn tf ex (HandSHeadRun.getT s)
theorem ob_eq (s : PySem.W.SharedT) : ob s = hk.obs s.abs := obsY_eq (HandSHeadRun.getT_eq s)
theorem run (w : World) : HandSHeadRun.RunEq R qv hk ob 20000 loose w := by
  intro os
  kernel_rfl
end G30
set_option Elab.async false
set_option linter.all false
set_option maxRecDepth 100000
set_option maxHeartbeats 4000000
set_option autoImplicit false
namespace G30
open PySem PySem.Spec PyProof.Rows L2 LamX StX SlX
/-! ### isinstance, chains -/
def tyD : D → Option String
  | .i _ => some "int"
  | .b _ => some "bool"
  | .n => some "NoneType"
  | .t _ => some "tuple"
  | _ => none
section
variable {X : Cx} {T : List (Addr × Str)} {B : Addr} {Γ Γ' : List (Option D)} {H H' : Hp} {d d1 d2 : D} {ds ds' : List D} {e a b c : Expr} {es : List Expr} {pos p : Pos} {i j k : Nat} {x : Str}
theorem tyx_of {K : PySem.W.Frag} {v : V} {t : String} (h : At B H d v) (e : tyD d = some t) : TyX K H v (.type t) := by
  cases d with
  | i n => cases e; cases (show v = .int n from h); exact .base (.int n)
  | b n => cases e; cases (show v = .bl n from h); exact .base (.bl n)
  | n => cases e; cases (show v = .non from h); exact .base .non
  | r a => cases e
  | t ds =>
    cases e
    obtain ⟨a, vs, rfl, ha, _⟩ := h
    exact .base (.tup ha)
  | bk m rs => cases e
theorem pd_isi {t u : String} {r : Bool} (hm : X.mg "isinstance" = none) (hmx : X.mg x = none) (hv : bootBuiltins x = some (.type u)) (ha : PD X T B a Γ H d) (ht : tyD d = some t) (hk : kitB t u = some r)
    (hg : Gl X "isinstance" := by rfl) (hgx : Gl X x := by rfl) (hn : x ≠ "__name__" := by decide) (hd : (x == ("__debug__" : Str)) = false := by decide) {px : Pos}
    (he : starEach [a, .Name x px] X.env = (false, eval a X.env) :: starEach [.Name x px] X.env := by rfl) (he2 : starEach [.Name x px] X.env = (false, eval (.Name x px) X.env) :: starEach [] X.env := by rfl) (hpl : (backTo pos (starEach [.Name x px] X.env)).any (·.1) = false := by rfl) :
    PD X T B (.Call (.Name "isinstance" p) [a, .Name x px] [] pos) Γ H (.b r) := fun σ H1 e1 s Q q =>
  PE.w (pe_callB call_isi hg hm PyProof.Rows.boot_isinstance (pa_cons (peS X a) (pa_cons (pe_bltn (v := .ty u) hgx hmx hv rfl hn hd) pa_nil he2) he) (by decide) (by decide) he hpl)
    (ha σ H1 e1 s _ fun v H2 e2 at2 => ⟨v, .ty u, .type t, .type u, r, rfl, .ty u, tyx_of at2 ht, kit_ty hk, q _ H2 e2 rfl⟩)
theorem pd_chain {op op' : CmpOp} {r r' : R2} {d3 : D} {k l : Bool} (ho : OpR X (compareOp op) r) (ho' : OpR X (compareOp op') r') (ha : PD X T B a Γ H d1) (hb : PD X T B b Γ H d2) (hc : k = true → PD X T B c Γ H d3) (hr : RD T B r d1 d2 (.b k) H) (hr' : k = true → RD T B r' d2 d3 (.b l) H)
    (hm : lastMarks [op, op'] [b, c] = false := by with_unfolding_all rfl) : PD X T B (.Compare a [op, op'] [b, c] pos) Γ H (.b (k && l)) := fun σ H1 x s Q q =>
  PE.w (pe_chain ho ho' (peS X a) (peS X b) (peS X c) hm) (ha σ H1 x s _ fun v H2 e2 at2 => hb σ H2 (x.trans e2) (s.mono e2) _ fun u H3 e3 at3 => hr v u H3 ((x.trans e2).trans e3) (at2.mono e3) at3 _ fun z H4 e4 at4 => ⟨k, at4, by
    cases k with
    | true =>
      rw [if_pos rfl]
      refine hc rfl σ H4 (((x.trans e2).trans e3).trans e4) (s.mono ((e2.trans e3).trans e4)) _ fun w H5 e5 at5 => ?_
      exact hr' rfl u w H5 ((((x.trans e2).trans e3).trans e4).trans e5) (at3.mono (e4.trans e5)) at5 Q fun z H6 e6 at6 => q z H6 ((((e2.trans e3).trans e4).trans e5).trans e6) at6
    | false =>
      rw [if_neg Bool.false_ne_true]
      exact q _ H4 ((e2.trans e3).trans e4) rfl⟩)
theorem pd_leleI {l m n : Int} (ha : PD X T B a Γ H (.i l)) (hb : PD X T B b Γ H (.i m)) (hc : PD X T B c Γ H (.i n)) (hm : lastMarks [.LtE, .LtE] [b, c] = false := by with_unfolding_all rfl) :
    PD X T B (.Compare a [.LtE, .LtE] [b, c] pos) Γ H (.b (decide (l ≤ m) && decide (m ≤ n))) := pd_chain op_le op_le ha hb (fun _ => hc) (rd_I0 fun _ => rfl) (fun _ => rd_I0 fun _ => rfl) hm
end
/-! ### a def keeps its promise -/
def startG (N : List Str) (ds : List D) : List (Option D) := ds.map some ++ List.replicate (N.length - ds.length) none
theorem sl_start {T : List (Addr × Str)} {B : Addr} {H : Hp} {N : List Str} {ds : List D} {vs : List V} (t : Tabs T H) (h : AtL B H ds vs) : Sl T B H (L2.start N vs) (startG N ds) := ⟨t, by
  unfold L2.start startG
  rw [List.length_append, List.length_append, List.length_map, List.length_map, List.length_replicate, List.length_replicate, h.len], fun i d e => by
  unfold startG at e
  unfold L2.start
  by_cases hi : i < ds.length
  · rw [List.getElem?_append_left (by rw [List.length_map]; exact hi), List.getElem?_map] at e
    cases hd : ds[i]? with
    | none =>
      rw [hd] at e
      cases e
    | some d' =>
      rw [hd] at e
      have e : d' = d := Option.some.inj (Option.some.inj e)
      subst e
      obtain ⟨v, h1, h2⟩ := h.at hd
      refine ⟨v, ?_, h2⟩
      rw [List.getElem?_append_left (by rw [List.length_map, h.len]; exact hi), List.getElem?_map, h1]
      rfl
  · rw [List.getElem?_append_right (by rw [List.length_map]; omega), List.getElem?_replicate] at e
    split at e
    · cases e
    · cases e⟩
abbrev bx (P : Program) (w : World) (K : PySem.W.Frag) (mg : Str → Option Value) (base : Heap) (N : List Str) (d : He.DefD) (f : Addr) (cd : Value) (A : Around) (outer : List Env) (s : Shared) (H : Hp) (E : XK) : Cx :=
  (cxOf CX0 P w K mg base N d.qual d.scope f cd A outer s H E).nox
section
variable {P : Program} {w : World} {K : PySem.W.Frag} {mg : Str → Option Value} {base : Heap} {T : List (Addr × Str)} {B : Addr} {x : Str} {N ps : List Str} {k : Nat}
/-- a def that stands in the head, with no defaults -/
structure DefOk (K : PySem.W.Frag) (mg : Str → Option Value) (x : Str) (d : He.DefD) : Prop where
  d0 : d.dfl = []
  k0 : d.kwd = []
  fd : ∃ fd, FunD K d.name d.qual d.params d.body d.scope (d.dvs K) (d.kws K) (He.fAd K d.at_) fd
theorem fnr_of {d : He.DefD} {sp : Sp} (D : DefOk K mg x d) (S : FnScope N ps d.scope) (hlen : ∀ vs H Q E, sp vs H Q E → vs.length = ps.length)
    (hb : ∀ (kV doc pm : Value) (an : Option Addr) (cdv ct : Value) (us : List Value), us.length = ps.length → bindArgs (PySem.W.fnOf d.name d.qual d.params d.body d.scope .none kV doc pm an cdv ct) ⟨us, []⟩ = pure (ps.zip us))
    (body : ∀ f cd A outer s H E, Room k (bx P w K mg base N d f cd A outer s H E).A → ∀ vs Q, sp vs H Q E → wS (bx P w K mg base N d f cd A outer s H E) d.body { nx := fun _ H' => Q .non H', rt := Q } (L2.start N vs) H) :
    FnR P w K mg base CX0 (k + 1) (He.fAd K d.at_) sp ∧ PySem.W.keepIn K (.ref (He.fAd K d.at_)) = true := by
  obtain ⟨fd, F⟩ := D.fd
  have e1 : d.dvs K = [] := by unfold He.DefD.dvs; rw [D.d0]; rfl
  have e2 : d.kws K = [] := by unfold He.DefD.kws; rw [D.k0]; rfl
  rw [e1, e2] at F
  have ok : FnOk P w K mg base CX0 (k + 1) (He.fAd K d.at_) fd ps sp := F.ok S hlen fun cdv A outer s H vs Q E hr h => ⟨_, PSs.nox (psS _ _), body _ cdv A outer s H E hr vs Q h⟩
  have b : Binds K fd ps [] := F.bindsN hb
  have r := ok.raw b .nil
  exact ⟨r.imp fun vs H Q E h => by rw [List.append_nil]; exact h, F.kp⟩
theorem has_D {d : He.DefD} {R : List D → D → Prop} (D : DefOk K mg x d) (g : mg x = some (.ref (He.fAd K d.at_))) (S : FnScope N ps d.scope) (hlen : ∀ ds d, R ds d → ds.length = ps.length)
    (hb : ∀ (kV doc pm : Value) (an : Option Addr) (cdv ct : Value) (us : List Value), us.length = ps.length → bindArgs (PySem.W.fnOf d.name d.qual d.params d.body d.scope .none kV doc pm an cdv ct) ⟨us, []⟩ = pure (ps.zip us))
    (body : ∀ f cd A outer s H E, Room k (bx P w K mg base N d f cd A outer s H E).A → ∀ ds r, R ds r → ∀ Q : VK, (∀ v H', Ex T H H' → At B H' r v → Q v H') → SD (bx P w K mg base N d f cd A outer s H E) T B d.body (startG N ds) H { nx := fun _ H' => Q .non H', rt := Q }) :
    Has P w K mg base (k + 1) x (spD T B R) := by
  obtain ⟨h1, h2⟩ := fnr_of (N := N) (ps := ps) (k := k) (P := P) (w := w) (base := base) (sp := spD T B R) D S (fun vs H Q E ⟨ds, r, a, t, hR, _⟩ => by rw [a.len]; exact hlen ds r hR) hb fun f cd A outer s H E hr vs Q ⟨ds, r, a, t, hR, q⟩ => body f cd A outer s H E hr ds r hR Q q _ H (Exb.refl _) (sl_start t a)
  exact ⟨_, g, h2, h1⟩
theorem has_L {d : He.DefD} {R : List D → List D → Prop} (D : DefOk K mg x d) (g : mg x = some (.ref (He.fAd K d.at_))) (S : FnScope N ps d.scope) (hlen : ∀ ds d, R ds d → ds.length = ps.length)
    (hb : ∀ (kV doc pm : Value) (an : Option Addr) (cdv ct : Value) (us : List Value), us.length = ps.length → bindArgs (PySem.W.fnOf d.name d.qual d.params d.body d.scope .none kV doc pm an cdv ct) ⟨us, []⟩ = pure (ps.zip us))
    (body : ∀ f cd A outer s H E, Room k (bx P w K mg base N d f cd A outer s H E).A → ∀ ds r, R ds r → ∀ Q : VK, (∀ p ws H', Nw H p → Ex T H H' → H' p = some (.lst ws) → AtL B H' r ws → Q (.ref p) H') → SD (bx P w K mg base N d f cd A outer s H E) T B d.body (startG N ds) H { nx := fun _ H' => Q .non H', rt := Q }) :
    Has P w K mg base (k + 1) x (spL T B R) := by
  obtain ⟨h1, h2⟩ := fnr_of (N := N) (ps := ps) (k := k) (P := P) (w := w) (base := base) (sp := spL T B R) D S (fun vs H Q E ⟨ds, r, a, t, hR, _⟩ => by rw [a.len]; exact hlen ds r hR) hb fun f cd A outer s H E hr vs Q ⟨ds, r, a, t, hR, q⟩ => body f cd A outer s H E hr ds r hR Q q _ H (Exb.refl _) (sl_start t a)
  exact ⟨_, g, h2, h1⟩
theorem def_of {w : World} {h : Heap} (c : He.SaysX fa fn [] tf ex w h K) (i : Nat) {d : He.DefD} (hd : fn[i]? = some d) (h1 : d.dfl = [] := by rfl) (h2 : d.kwd = [] := by rfl) : DefOk K mg x d := ⟨h1, h2, c.t.d.def_ i hd⟩
end
end G30
set_option Elab.async false
set_option linter.all false
set_option maxRecDepth 100000
set_option maxHeartbeats 4000000
set_option autoImplicit false
namespace G30
open PySem PySem.Spec PyProof.Rows L2 LamX StX SlX
/-! ### what the head says -/
def Zk (K : PySem.W.Frag) (mg : Str → Option Value) : Prop := ∃ (w : World) (h : Heap), K.In h ∧ h.Ns mainGlobals mg ∧ He.SaysX fa fn [] tf ex w h K
section
variable {K : PySem.W.Frag} {mg : Str → Option Value}
theorem Zk.d (Z : Zk K mg) (i : Nat) {d : He.DefD} {x : Str} (hd : fn[i]? = some d) (h1 : d.dfl = []) (h2 : d.kwd = []) : DefOk K mg x d := by
  obtain ⟨w, h, X, G, c⟩ := Z
  exact def_of c i hd h1 h2
theorem Zk.ok (Z : Zk K mg) {f : He.Fa} (i : Nat) (hf : fa[i]? = some f) : f.ok K = true := by
  obtain ⟨w, h, X, G, c⟩ := Z
  exact c.t.d.facts (List.mem_of_getElem? hf)
theorem Zk.glo (Z : Zk K mg) {x : Str} (i : Nat) (hf : fa[i]? = some (.glo x)) : mg x = some (.ref (He.ga K x)) := by
  have o := Z.ok i hf
  obtain ⟨w, h, X, G, c⟩ := Z
  exact He.glo_ok X G o
theorem Zk.free (Z : Zk K mg) {x : Str} (i : Nat) (hf : fa[i]? = some (.free x)) : mg x = none := by
  have o := Z.ok i hf
  obtain ⟨w, h, X, G, c⟩ := Z
  exact He.free_ok X G o
theorem Zk.int (Z : Zk K mg) {x : Str} {k : Int} (i : Nat) (hf : fa[i]? = some (.int x k)) : ∃ t, mg x = some (.int k t) := by
  have o := Z.ok i hf
  obtain ⟨w, h, X, G, c⟩ := Z
  exact He.int_ok X G o
theorem Zk.abs (Z : Zk K mg) : mg "abs" = none := Z.free 72 rfl
theorem Zk.all (Z : Zk K mg) : mg "all" = none := Z.free 73 rfl
theorem Zk.any (Z : Zk K mg) : mg "any" = none := Z.free 74 rfl
theorem Zk.bool_ (Z : Zk K mg) : mg "bool" = none := Z.free 75 rfl
theorem Zk.dict_ (Z : Zk K mg) : mg "dict" = none := Z.free 76 rfl
theorem Zk.enumerate (Z : Zk K mg) : mg "enumerate" = none := Z.free 77 rfl
theorem Zk.int_ (Z : Zk K mg) : mg "int" = none := Z.free 78 rfl
theorem Zk.isinstance (Z : Zk K mg) : mg "isinstance" = none := Z.free 79 rfl
theorem Zk.len (Z : Zk K mg) : mg "len" = none := Z.free 80 rfl
theorem Zk.list_ (Z : Zk K mg) : mg "list" = none := Z.free 81 rfl
theorem Zk.range (Z : Zk K mg) : mg "range" = none := Z.free 82 rfl
theorem Zk.sorted (Z : Zk K mg) : mg "sorted" = none := Z.free 83 rfl
theorem Zk.sum (Z : Zk K mg) : mg "sum" = none := Z.free 84 rfl
theorem Zk.tuple_ (Z : Zk K mg) : mg "tuple" = none := Z.free 85 rfl
theorem Zk.zip (Z : Zk K mg) : mg "zip" = none := Z.free 86 rfl
theorem Zk.most_marks (Z : Zk K mg) : ∃ t, mg "MOST_MARKS" = some (.int 5 t) := Z.int 87 rfl
theorem Zk.most_rules (Z : Zk K mg) : ∃ t, mg "MOST_RULES" = some (.int 16 t) := Z.int 88 rfl
theorem Zk.most_chance (Z : Zk K mg) : ∃ t, mg "MOST_CHANCE" = some (.int 12 t) := Z.int 89 rfl
end
theorem boot_int : bootBuiltins "int" = some (.type "int") := by decide +kernel
theorem boot_bool : bootBuiltins "bool" = some (.type "bool") := by decide +kernel
theorem boot_tuple : bootBuiltins "tuple" = some (.type "tuple") := by decide +kernel
/-! ### short forms -/
section
variable {X : Cx} {T : List (Addr × Str)} {B : Addr} {Γ Γ' : List (Option D)} {H H' : Hp} {d d1 d2 : D} {ds ds' : List D} {e a b c : Expr} {es : List Expr} {pos p p2 : Pos} {j k : Nat} {x : Str}
theorem pdv (i : Nat) (hN : X.N[i]? = some x := by rfl) (hΓ : Γ[i]? = some (some d) := by rfl) (hv : Vis X.env.scope x := by first | exact .inl rfl | exact .inr (.inl rfl) | exact .inr (.inr rfl)) (hd : (x == ("__debug__" : Str)) = false := by decide) (hcd : (x == ("__classdict__" : Str)) = false := by decide) : PD X T B (.Name x pos) Γ H d := pd_var hN hv hΓ hd hcd
theorem prv (i : Nat) {q : Addr} {vs : List V} (hl : SqL X.K H q vs) (ha : AtL B H ds vs) (hN : X.N[i]? = some x := by rfl) (hΓ : Γ[i]? = some (some (.r q)) := by rfl) (hv : Vis X.env.scope x := by first | exact .inl rfl | exact .inr (.inl rfl) | exact .inr (.inr rfl)) (hd : (x == ("__debug__" : Str)) = false := by decide) (hcd : (x == ("__classdict__" : Str)) = false := by decide) :
    PR X T B (.Name x pos) Γ H ds := pr_var hN hv hΓ hl ha hd hcd
theorem pd_allM {α : Type} {xs : List α} {q : α → Bool} (hc : X.calm = true) (hm : X.mg "all" = none) (ha : PR X T B e Γ H (xs.map fun a => .b (q a))) (hg : Gl X "all" := by rfl) (he : starEach [e] X.env = (false, eval e X.env) :: starEach [] X.env := by rfl) (hpl : (backTo pos (starEach [] X.env)).any (·.1) = false := by rfl) :
    PD X T B (.Call (.Name "all" p) [e] [] pos) Γ H (.b (xs.all q)) := (pd_all (bs := xs.map q) hc hm (ha.is (by rw [List.map_map]; rfl)) hg he hpl).is (by rw [List.all_map]; rfl)
theorem pd_anyM {α : Type} {xs : List α} {q : α → Bool} (hc : X.calm = true) (hm : X.mg "any" = none) (ha : PR X T B e Γ H (xs.map fun a => .b (q a))) (hg : Gl X "any" := by rfl) (he : starEach [e] X.env = (false, eval e X.env) :: starEach [] X.env := by rfl) (hpl : (backTo pos (starEach [] X.env)).any (·.1) = false := by rfl) :
    PD X T B (.Call (.Name "any" p) [e] [] pos) Γ H (.b (xs.any q)) := (pd_any (bs := xs.map q) hc hm (ha.is (by rw [List.map_map]; rfl)) hg he hpl).is (by rw [List.any_map]; rfl)
theorem pd_sumM {α : Type} {xs : List α} {q : α → Int} (hc : X.calm = true) (hm : X.mg "sum" = none) (ha : PR X T B e Γ H (xs.map fun a => .i (q a))) (hg : Gl X "sum" := by rfl) (he : starEach [e] X.env = (false, eval e X.env) :: starEach [] X.env := by rfl) (hpl : (backTo pos (starEach [] X.env)).any (·.1) = false := by rfl) :
    PD X T B (.Call (.Name "sum" p) [e] [] pos) Γ H (.i (xs.map q).sum) := pd_sumL hc hm (ha.is (by rw [List.map_map]; rfl)) hg he hpl
/-! slices -/
def cutD (ds : List D) (lo hi : Option Int) : List D := (ds.drop (HT.sIx ds.length 0 lo)).take (HT.sIx ds.length ds.length hi - HT.sIx ds.length 0 lo)
theorem AtL.drop : ∀ (n : Nat) {ds : List D} {vs : List V}, AtL B H ds vs → AtL B H (ds.drop n) (vs.drop n)
  | 0, _, _, h => h
  | n + 1, [], _, h => by
    have h : _ = [] := h
    rw [h]
    rfl
  | n + 1, d :: ds, _, h => by
    obtain ⟨v, r, rfl, _, h3⟩ := h
    exact AtL.drop n h3
theorem AtL.take : ∀ (n : Nat) {ds : List D} {vs : List V}, AtL B H ds vs → AtL B H (ds.take n) (vs.take n)
  | 0, ds, vs, h => by rw [List.take_zero, List.take_zero]; rfl
  | n + 1, [], _, h => by
    have h : _ = [] := h
    rw [h]
    rfl
  | n + 1, d :: ds, _, h => by
    obtain ⟨v, r, rfl, h2, h3⟩ := h
    exact ⟨v, r.take n, rfl, h2, AtL.take n h3⟩
theorem AtL.cut {vs : List V} {lo hi : Option Int} (h : AtL B H ds vs) : AtL B H (cutD ds lo hi) (cutV vs lo hi) := by
  unfold cutD cutV
  rw [h.len]
  exact (h.drop _).take _
/-- a part of a slice -/
def OD (X : Cx) (T : List (Addr × Str)) (B : Addr) (e : Option Expr) (Γ : List (Option D)) (H : Hp) (o : Option Int) : Prop := ∃ t, PO X e t ∧ ∀ σ H1, Ex T H H1 → Sl T B H1 σ Γ → ∀ Q : Option Int → Hp → Prop, (∀ H2, Ex T H1 H2 → Q o H2) → t σ H1 Q
theorem od_none : OD X T B none Γ H none := ⟨_, po_none, fun σ H1 _ _ Q q => q H1 (Exb.refl _)⟩
theorem od_some {n : Int} (h : PD X T B e Γ H (.i n)) : OD X T B (some e) Γ H (some n) := ⟨_, po_some (peS X e), fun σ H1 x s Q q => h σ H1 x s _ fun v H2 e2 at2 => ⟨n, at2, q H2 e2⟩⟩
theorem pd_slT {lo hi : Option Expr} {l h : Option Int} {sp : Pos} (ha : PD X T B a Γ H (.t ds)) (hl : OD X T B lo Γ H l) (hh : OD X T B hi Γ H h) : PD X T B (.Subscript a (.Slice lo hi none sp) pos) Γ H (.t (cutD ds l h)) := fun σ H1 x s Q q => by
  obtain ⟨tl, pl, wl⟩ := hl
  obtain ⟨th, ph, wh⟩ := hh
  refine PE.w (pe_slice sl_tupA (peS X a) pl ph) (ha σ H1 x s _ fun v H2 e2 ⟨p, vs, ev, hp, hv⟩ => wl σ H2 (x.trans e2) (s.mono e2) _ fun H3 e3 => wh σ H3 ((x.trans e2).trans e3) (s.mono (e2.trans e3)) _ fun H4 e4 => ?_)
  have e24 := e3.trans e4
  have hv4 := hv.mono e24
  refine ⟨p, vs, ev, SqT.of (e24.tup hp), fun z => q _ H4 (e2.trans e24) ⟨p, vs, rfl, e24.tup hp, ?_⟩, fun z l hn => q _ _ ((e2.trans e24).trans (Ex.new hn)) ⟨l, _, rfl, upd_same, (hv4.mono (Ex.new (T := T) hn)).cut⟩⟩
  have hz : cutD ds l h = ds := by
    unfold cutD
    rw [← hv.len, z.1, z.2, List.drop_zero, hv.len]
    exact List.take_of_length_le (by omega)
  rw [hz]
  exact hv4
theorem pl_slL {lo hi : Option Expr} {l h : Option Int} {sp : Pos} (ha : PR X T B a Γ H ds) (hl : OD X T B lo Γ H l) (hh : OD X T B hi Γ H h) : PL X T B (.Subscript a (.Slice lo hi none sp) pos) Γ H (cutD ds l h) := fun σ H1 x s Q q => by
  obtain ⟨tl, pl, wl⟩ := hl
  obtain ⟨th, ph, wh⟩ := hh
  refine PE.w (pe_slice sl_list (peS X a) pl ph) (ha σ H1 x s _ fun p vs H2 e2 hp hv => wl σ H2 (x.trans e2) (s.mono e2) _ fun H3 e3 => wh σ H3 ((x.trans e2).trans e3) (s.mono (e2.trans e3)) _ fun H4 e4 => ?_)
  have e24 := e3.trans e4
  have hv4 := hv.mono e24
  exact ⟨p, vs, rfl, Ex.sql e24 hp, fun l hn => q l _ _ ((e2.trans e24).free hn) ((e2.trans e24).trans (Ex.new hn)) upd_same (hv4.mono (Ex.new (T := T) hn)).cut⟩
/-! + of tuples, of lists; * -/
theorem pd_catT (ha : PD X T B a Γ H (.t ds)) (hb : PD X T B b Γ H (.t ds')) (hz : ds.length + ds'.length ≤ sizeLine) : PD X T B (.BinOp a .Add b pos) Γ H (.t (ds ++ ds')) := pd_op op_catA ha hb fun x y H1 e ⟨p, vs, ex, hp, hv⟩ ⟨r, ws, ey, hr, hw⟩ Q q => by
  refine ⟨p, r, vs, ws, ex, ey, SqT.of hp, SqT.of hr, by rw [hv.len, hw.len]; exact hz, fun z => ?_, fun z z2 => ?_, fun z z2 l hn => q _ _ (Ex.new hn) ⟨l, _, rfl, upd_same, (hv.app hw).mono (Ex.new (T := T) hn)⟩⟩
  · have hd : ds = [] := List.eq_nil_of_length_eq_zero (by rw [← hv.len, z]; rfl)
    rw [hd] at q
    exact q _ H1 (Exb.refl _) ⟨r, ws, rfl, hr, hw⟩
  · have hd : ds' = [] := List.eq_nil_of_length_eq_zero (by rw [← hw.len, z2]; rfl)
    rw [hd, List.append_nil] at q
    exact q _ H1 (Exb.refl _) ⟨p, vs, rfl, hp, hv⟩
/-- some list, told to be tracked -/
def PK (X : Cx) (T : List (Addr × Str)) (B : Addr) (e : Expr) (Γ : List (Option D)) (H : Hp) (ds : List D) : Prop := ∀ σ H1, Ex T H H1 → Sl T B H1 σ Γ → ∀ Q : VK, (∀ p vs H2, Ex T H1 H2 → H2 p = some (.lst vs) → AtL B H2 ds vs → Q (.ref p) H2) → wE X e σ H1 Q
theorem PL.tr (h : PL X T B e Γ H ds) : PK X T B e Γ H ds := fun σ H1 x s Q q => h σ H1 x s Q fun p vs H2 _ e2 e3 e4 => q p vs H2 e2 e3 e4
theorem pkv (i : Nat) {q : Addr} {vs : List V} (hl : H q = some (.lst vs)) (ha : AtL B H ds vs) (hN : X.N[i]? = some x := by rfl) (hΓ : Γ[i]? = some (some (.r q)) := by rfl) (hv : Vis X.env.scope x := by first | exact .inl rfl | exact .inr (.inl rfl) | exact .inr (.inr rfl)) (hd : (x == ("__debug__" : Str)) = false := by decide) (hcd : (x == ("__classdict__" : Str)) = false := by decide) :
    PK X T B (.Name x pos) Γ H ds := fun σ H1 e s Q q => by
  obtain ⟨v, e1, e2⟩ := s.at_ i _ hΓ
  have e2 : v = .ref _ := e2
  rw [e2] at e1
  exact PE.w (pe_var hN hv hd hcd) ⟨_, e1, q _ vs H1 (Exb.refl _) (Ex.lst e hl) (ha.mono e)⟩
theorem pl_cat (ha : PK X T B a Γ H ds) (hb : PK X T B b Γ H ds') (hz : ds.length + ds'.length ≤ sizeLine) : PL X T B (.BinOp a .Add b pos) Γ H (ds ++ ds') := fun σ H1 x s Q q =>
  PE.w (pe_op op_cat (peS X a) (peS X b)) (ha σ H1 x s _ fun p vs H2 e2 hp hv => hb σ H2 (x.trans e2) (s.mono e2) _ fun r ws H3 e3 hr hw =>
    ⟨p, r, vs, ws, rfl, rfl, Ex.lst e3 hp, hr, by rw [hv.len, hw.len]; exact hz, fun l hn => q l _ _ ((e2.trans e3).free hn) ((e2.trans e3).trans (Ex.new hn)) upd_same (((hv.mono e3).app hw).mono (Ex.new (T := T) hn))⟩)
/-- [k] * n -/
theorem pl_rep0 {n k : Int} {j : Nat} {p1 p3 : Pos} (hb : PD X T B b Γ H (.i n)) (h0 : 0 ≤ n) (h1 : n ≤ 1000) : PL X T B (.BinOp (.List [.Constant (.int k) j p1] p3) .Mult b pos) Γ H ((List.replicate n.toNat k).map .i) := fun σ H1 x s Q q =>
  PE.w (pe_op op_rep (peS X _) (peS X b)) (pl_lst (ad_cons (pd_int) ad_nil) (by show 1 ≤ 2 ^ 24; omega) σ H1 x s _ fun p vs H2 hn e2 hp hv => hb σ H2 (x.trans e2) (s.mono e2) _ fun u H3 e3 at3 => by
    obtain ⟨v, rfl, av⟩ := hv.single
    have av : v = .int k := av
    subst av
    refine ⟨p, n, _, rfl, at3, Ex.lst e3 hp, by omega, by omega, by show 1 * n.toNat ≤ 2 ^ 24; omega, fun l hn => q l _ _ ((e2.trans e3).free hn) ((e2.trans e3).trans (Ex.new hn)) upd_same ?_⟩
    have ef : (List.replicate n.toNat [V.int k]).flatten = (List.replicate n.toNat k).map V.int := by
      induction n.toNat with
      | zero => rfl
      | succ m ih => rw [List.replicate_succ, List.flatten_cons, ih, List.replicate_succ, List.map_cons]; rfl
    rw [ef]
    exact AtL.of_ints _)
/-! == of data -/
mutual
def pdD : D → PyData
  | .i n => .int n
  | .b x => .bool x
  | .n => .none
  | .r _ => .none
  | .t ds => .tuple (pdL ds)
  | .bk _ _ => .none
def pdL : List D → List PyData
  | [] => []
  | d :: ds => pdD d :: pdL ds
end
mutual
/-- plain data, at most k deep -/
def okD : Nat → D → Bool
  | _, .i _ => true
  | _, .b _ => true
  | _, .n => true
  | k + 1, .t ds => okL k ds
  | 0, .t _ => false
  | _, .r _ => false
  | _, .bk _ _ => false
def okL : Nat → List D → Bool
  | _, [] => true
  | k, d :: ds => okD k d && okL k ds
end
mutual
theorem At.dp {K : PySem.W.Frag} : ∀ (k : Nat) (d : D) {v : V}, At B H d v → okD k d = true → Dp K H v (pdD d)
  | _, .i _, _, h, _ => by rw [show _ = V.int _ from h]; exact .int _
  | _, .b _, _, h, _ => by rw [show _ = V.bl _ from h]; exact .bl _
  | _, .n, _, h, _ => by rw [show _ = V.non from h]; exact .non
  | _, .r _, _, _, z => by unfold okD at z; cases z
  | _, .bk _ _, _, _, z => by unfold okD at z; cases z
  | 0, .t _, _, _, z => by unfold okD at z; cases z
  | k + 1, .t ds, _, h, z => by
    obtain ⟨p, vs, rfl, hp, hv⟩ := h
    unfold okD at z
    unfold pdD
    exact .tup (SqT.of hp) (AtL.dp k ds hv z)
theorem AtL.dp {K : PySem.W.Frag} : ∀ (k : Nat) (ds : List D) {vs : List V}, AtL B H ds vs → okL k ds = true → DpAll K H vs (pdL ds)
  | _, [], _, h, _ => by
    have h : _ = [] := h
    rw [h]
    exact .nil
  | k, d :: ds, _, h, z => by
    obtain ⟨v, r, rfl, h1, h2⟩ := h
    unfold okL at z
    obtain ⟨z1, z2⟩ := Bool.and_eq_true_iff.mp z
    unfold pdL
    exact .cons (At.dp k d h1 z1) (AtL.dp k ds h2 z2)
end
mutual
theorem okD_can : ∀ (k : Nat) (d : D), okD k d = true → (pdD d).canLay0 = true ∧ (pdD d).depth ≤ k
  | _, .i _, _ => ⟨rfl, Nat.zero_le _⟩
  | _, .b _, _ => ⟨rfl, Nat.zero_le _⟩
  | _, .n, _ => ⟨rfl, Nat.zero_le _⟩
  | _, .r _, z => by unfold okD at z; cases z
  | _, .bk _ _, z => by unfold okD at z; cases z
  | 0, .t _, z => by unfold okD at z; cases z
  | k + 1, .t ds, z => by
    unfold okD at z
    obtain ⟨h1, h2⟩ := okL_can k ds z
    unfold pdD
    exact ⟨by unfold PyData.canLay0; exact h1, by unfold PyData.depth; omega⟩
theorem okL_can : ∀ (k : Nat) (ds : List D), okL k ds = true → PyData.canLayAll0 (pdL ds) = true ∧ PyData.depthAll (pdL ds) ≤ k
  | _, [], _ => ⟨rfl, Nat.zero_le _⟩
  | k, d :: ds, z => by
    unfold okL at z
    obtain ⟨z1, z2⟩ := Bool.and_eq_true_iff.mp z
    obtain ⟨h1, h2⟩ := okD_can k d z1
    obtain ⟨h3, h4⟩ := okL_can k ds z2
    unfold pdL PyData.canLayAll0 PyData.depthAll
    exact ⟨by rw [h1, h3]; rfl, by omega⟩
end
theorem shaped_D {k : Nat} {d : D} (h : okD k d = true) (hk : k ≤ 60) : SeqAt.shaped (pdD d) = true := by
  obtain ⟨h1, h2⟩ := okD_can k d h
  unfold SeqAt.shaped
  rw [h1, decide_eq_true (by omega)]
  rfl
theorem rd_eqD {K : PySem.W.Frag} {n : Nat} (h1 : okD n d1 = true) (h2 : okD n d2 = true) (hn : n ≤ 60 := by decide) : RD T B (rEqD K) d1 d2 (.b (PyData.eqv (pdD d1) (pdD d2))) H := fun x y H1 _ a1 a2 Q q =>
  ⟨_, _, a1.dp n d1 h1, a2.dp n d2 h2, shaped_D h1 hn, shaped_D h2 hn, q _ H1 (Exb.refl _) rfl⟩
theorem rd_neD {K : PySem.W.Frag} {n : Nat} (h1 : okD n d1 = true) (h2 : okD n d2 = true) (hn : n ≤ 60 := by decide) : RD T B (rNeD K) d1 d2 (.b (!PyData.eqv (pdD d1) (pdD d2))) H := fun x y H1 _ a1 a2 Q q =>
  ⟨_, _, a1.dp n d1 h1, a2.dp n d2 h2, shaped_D h1 hn, shaped_D h2 hn, q _ H1 (Exb.refl _) rfl⟩
theorem okL_ints {k : Nat} : ∀ ns : List Int, okL k (ns.map .i) = true
  | [] => by unfold okL; rfl
  | n :: ns => by
    rw [List.map_cons]
    unfold okL
    rw [okL_ints ns]
    cases k <;> rfl
theorem okL_bools {k : Nat} : ∀ ns : List Bool, okL k (ns.map .b) = true
  | [] => by unfold okL; rfl
  | n :: ns => by
    rw [List.map_cons]
    unfold okL
    rw [okL_bools ns]
    cases k <;> rfl
theorem eqv_ints : ∀ ns ms : List Int, PyData.eqvAll (pdL (ns.map .i)) (pdL (ms.map .i)) = decide (ns = ms)
  | [], [] => rfl
  | [], _ :: _ => rfl
  | _ :: _, [] => rfl
  | n :: ns, m :: ms => by
    show ((n == m) && PyData.eqvAll (pdL (ns.map .i)) (pdL (ms.map .i))) = _
    rw [eqv_ints ns ms]
    by_cases h1 : n = m
    · subst h1
      by_cases h2 : ns = ms
      · subst h2; simp
      · simp [h2]
    · simp [h1]
theorem eqv_bools : ∀ ns ms : List Bool, PyData.eqvAll (pdL (ns.map .b)) (pdL (ms.map .b)) = decide (ns = ms)
  | [], [] => rfl
  | [], _ :: _ => rfl
  | _ :: _, [] => rfl
  | n :: ns, m :: ms => by
    show ((n == m) && PyData.eqvAll (pdL (ns.map .b)) (pdL (ms.map .b))) = _
    rw [eqv_bools ns ms]
    by_cases h1 : n = m
    · subst h1
      by_cases h2 : ns = ms
      · subst h2; simp
      · simp [h2]
    · simp [h1]
theorem rd_eqS {K : PySem.W.Frag} {s t : List Int} : RD T B (rEqD K) (sD s) (sD t) (.b (decide (s = t))) H := by
  have h := rd_eqD (T := T) (B := B) (H := H) (K := K) (n := 1) (d1 := sD s) (d2 := sD t) (okL_ints s) (okL_ints t)
  have e : PyData.eqv (pdD (sD s)) (pdD (sD t)) = decide (s = t) := eqv_ints s t
  rw [e] at h
  exact h
theorem rd_neS {K : PySem.W.Frag} {s t : List Int} : RD T B (rNeD K) (sD s) (sD t) (.b (!decide (s = t))) H := by
  have h := rd_neD (T := T) (B := B) (H := H) (K := K) (n := 1) (d1 := sD s) (d2 := sD t) (okL_ints s) (okL_ints t)
  have e : PyData.eqv (pdD (sD s)) (pdD (sD t)) = decide (s = t) := eqv_ints s t
  rw [e] at h
  exact h
theorem room_cmp {A : Around} (hr : Room k A) : A.units + 64 < cLine := by
  have := hr.un
  omega
theorem pd_eqS {s t : List Int} (hr : Room k X.A) (ha : PD X T B a Γ H (sD s)) (hb : PD X T B b Γ H (sD t)) (hm : behindInMarks .Eq b = false := by first | exact nomark _ | with_unfolding_all rfl) : PD X T B (.Compare a [.Eq] [b] pos) Γ H (.b (decide (s = t))) := pd_cmp (op_eqD (room_cmp hr)) ha hb rd_eqS hm
theorem pd_neS {s t : List Int} (hr : Room k X.A) (ha : PD X T B a Γ H (sD s)) (hb : PD X T B b Γ H (sD t)) (hm : behindInMarks .NotEq b = false := by first | exact nomark _ | with_unfolding_all rfl) : PD X T B (.Compare a [.NotEq] [b] pos) Γ H (.b (!decide (s = t))) := pd_cmp (op_neD (room_cmp hr)) ha hb rd_neS hm
theorem td_eqS {s t : List Int} (hr : Room k X.A) (ha : PD X T B a Γ H (sD s)) (hb : PD X T B b Γ H (sD t)) (hm : behindInMarks .Eq b = false := by first | exact nomark _ | with_unfolding_all rfl) : TD X T B (.Compare a [.Eq] [b] pos) Γ H (decide (s = t)) := td_cmp (op_eqD (room_cmp hr)) ha hb rd_eqS hm
theorem td_neS {s t : List Int} (hr : Room k X.A) (ha : PD X T B a Γ H (sD s)) (hb : PD X T B b Γ H (sD t)) (hm : behindInMarks .NotEq b = false := by first | exact nomark _ | with_unfolding_all rfl) : TD X T B (.Compare a [.NotEq] [b] pos) Γ H (!decide (s = t)) := td_cmp (op_neD (room_cmp hr)) ha hb rd_neS hm
/-- two lists of data -/
theorem td_neL {n : Nat} (hr : Room k X.A) (ha : PR X T B a Γ H ds) (hb : PR X T B b Γ H ds') (h1 : okL n ds = true) (h2 : okL n ds' = true) (hn : n ≤ 59 := by decide) (hm : behindInMarks .NotEq b = false := by first | exact nomark _ | with_unfolding_all rfl) :
    TD X T B (.Compare a [.NotEq] [b] pos) Γ H (!PyData.eqvAll (pdL ds) (pdL ds')) := fun σ H1 x s Q q =>
  PT.w (pt_cmpR (op_neD (room_cmp hr)) (peS X a) (peS X b) hm) (ha σ H1 x s _ fun p vs H2 e2 hp hv => hb σ H2 (x.trans e2) (s.mono e2) _ fun r ws H3 e3 hr hw => by
    have c1 := okL_can n ds h1
    have c2 := okL_can n ds' h2
    refine ⟨.list (pdL ds), .list (pdL ds'), .lst (Ex.sql e3 hp) (AtL.dp n ds (hv.mono e3) h1), .lst hr (AtL.dp n ds' hw h2), ?_, ?_, _, rfl, q H3 (e2.trans e3)⟩
    · unfold SeqAt.shaped PyData.canLay0 PyData.depth
      rw [c1.1, decide_eq_true (by omega)]
      rfl
    · unfold SeqAt.shaped PyData.canLay0 PyData.depth
      rw [c2.1, decide_eq_true (by omega)]
      rfl)
/-- list != [] -/
theorem td_ne0 {p3 : Pos} {n : Nat} (hr : Room k X.A) (ha : PR X T B a Γ H ds) (h1 : okL n ds = true) (hn : n ≤ 59 := by decide) (hm : behindInMarks .NotEq (.List [] p3) = false := by first | exact nomark _ | with_unfolding_all rfl) :
    TD X T B (.Compare a [.NotEq] [.List [] p3] pos) Γ H (!ds.isEmpty) := (td_neL hr ha (pl_lst ad_nil (Nat.zero_le _)).r h1 (by unfold okL; rfl) hn hm).is (by cases ds <;> rfl)
/-- x is not None -/
theorem td_notN {j : Nat} {p3 : Pos} (ha : PD X T B a Γ H d) (hm : behindInMarks .IsNot (.Constant .none j p3) = false := by first | exact nomark _ | with_unfolding_all rfl) (b : Bool) (hd : ∀ H v, At B H d v → (!decide (v = .non)) = b) : TD X T B (.Compare a [.IsNot] [.Constant .none j p3] pos) Γ H b :=
  td_cmp op_notN ha pd_non (fun x y H1 _ h1 h2 Q q => ⟨h2, q _ H1 (Exb.refl _) (by rw [hd H1 x h1]; rfl)⟩) hm
end
end G30
set_option Elab.async false
set_option linter.all false
set_option maxRecDepth 100000
set_option maxHeartbeats 4000000
set_option autoImplicit false
namespace G30
open PySem PySem.Spec PyProof.Rows L2 LamX StX SlX
/-! ### books -/
structure BkF (K : PySem.W.Frag) (B : Addr) : Prop where
  c : SCls K B
  m : ∃ p, Slot1 K B "marks" p 0
  r : ∃ p, Slot1 K B "rules" p 1
  i : SIsi K B
  k : PySem.W.kitOne K (.ref B) (.ref B) = some true
section
variable {K : PySem.W.Frag} {mg : Str → Option Value}
theorem slotB_ok {C : Addr} {f : Str} {i : Nat} (hi : i < 1000) (h : slotB K C f i = true) : ∃ p, Slot1 K C f p i := by
  unfold slotB at h
  split at h
  · next p hp =>
    obtain ⟨h1, h⟩ := He.ba h
    obtain ⟨h2, h⟩ := He.ba h
    obtain ⟨h3, h4⟩ := He.ba h
    exact ⟨p, hp, He.eqO_ok h1, of_decide_eq_true h2, of_decide_eq_true h3, of_decide_eq_true h4, hi⟩
  · cases h
theorem clsB_ok {C : Addr} (h : clsB K C = true) : SIsi K C := by
  unfold clsB at h
  obtain ⟨h1, h⟩ := He.ba h
  obtain ⟨h2, h⟩ := He.ba h
  obtain ⟨h3, h4⟩ := He.ba h
  exact ⟨He.eqO_ok h1, He.eqO_ok h2, of_decide_eq_true h3, of_decide_eq_true h4⟩
structure ExF (K : PySem.W.Frag) : Prop where
  bk : BkF K (He.ga K "Book")
  iR : SIsi K (He.ga K "Ranks")
  iO : SIsi K (He.ga K "Oneway")
  iG : SIsi K (He.ga K "Geometry")
  iE : SIsi K (He.ga K "Exchange")
  kR : PySem.W.kitOne K (.ref (He.ga K "Ranks")) (.ref (He.ga K "Ranks")) = some true
  kO : PySem.W.kitOne K (.ref (He.ga K "Oneway")) (.ref (He.ga K "Ranks")) = some false
  kG : PySem.W.kitOne K (.ref (He.ga K "Geometry")) (.ref (He.ga K "Geometry")) = some true
  kE : PySem.W.kitOne K (.ref (He.ga K "Exchange")) (.ref (He.ga K "Geometry")) = some false
  tb : ¬ (He.cT K ("in_order", none)).2 = (He.cT K ("_law_sets", none)).2
theorem Zk.ex (Z : Zk K mg) : ExF K := by
  obtain ⟨w, h, X, G, c⟩ := Z
  have e := c.more
  unfold G30.ex at e
  obtain ⟨e1, e2⟩ := He.ba e
  obtain ⟨e3, e4⟩ := He.ba e1
  obtain ⟨e5, e6⟩ := He.ba e4
  obtain ⟨e7, e8⟩ := He.ba e2
  obtain ⟨e9, e10⟩ := He.ba e8
  obtain ⟨e11, e12⟩ := He.ba e10
  obtain ⟨e13, e14⟩ := He.ba e12
  obtain ⟨e15, e16⟩ := He.ba e14
  obtain ⟨e16, e17⟩ := He.ba e16
  unfold sclsB at e3
  obtain ⟨s1, s2⟩ := He.ba e3
  obtain ⟨s3, s4⟩ := He.ba s2
  obtain ⟨s5, s6⟩ := He.ba s4
  have c5 := List.all_eq_true.mp e7
  exact ⟨⟨⟨s1, s3, s5, He.eqO_ok s6⟩, slotB_ok (by decide) e5, slotB_ok (by decide) e6, clsB_ok (c5 "Book" (by simp)), of_decide_eq_true e9⟩,
    clsB_ok (c5 "Ranks" (by simp)), clsB_ok (c5 "Oneway" (by simp)), clsB_ok (c5 "Geometry" (by simp)), clsB_ok (c5 "Exchange" (by simp)), of_decide_eq_true e11, of_decide_eq_true e13, of_decide_eq_true e15, of_decide_eq_true e16, by simpa using e17⟩
theorem Zk.bk (Z : Zk K mg) : BkF K (He.ga K "Book") := Z.ex.bk
end
section
variable {X : Cx} {T : List (Addr × Str)} {B : Addr} {Γ Γ' : List (Option D)} {H H' : Hp} {d rs d1 d2 : D} {ds ds' : List D} {e a b c : Expr} {es : List Expr} {pos p p2 : Pos} {j k m : Nat} {x : Str}
theorem pd_bkM (F : BkF X.K B) (h : PD X T B e Γ H (.bk m rs)) (hb : attributeBase e "marks" X.env (eval e X.env) = eval e X.env := by rfl) : PD X T B (.Attribute e "marks" pos) Γ H (.i m) := fun σ H1 x s Q q =>
  PE.w (pe_sl (peS X e) hb) (h σ H1 x s _ fun v H2 e2 ⟨a, dx, r, ev, ha, hd, hr⟩ => by
    obtain ⟨p, hp⟩ := F.m
    exact ⟨a, B, dx, p, _, 0, _, ev, .inr ⟨ha, hd⟩, F.c, hp, rfl, q _ H2 e2 rfl⟩)
theorem pd_bkR (F : BkF X.K B) (h : PD X T B e Γ H (.bk m rs)) (hb : attributeBase e "rules" X.env (eval e X.env) = eval e X.env := by rfl) : PD X T B (.Attribute e "rules" pos) Γ H rs := fun σ H1 x s Q q =>
  PE.w (pe_sl (peS X e) hb) (h σ H1 x s _ fun v H2 e2 ⟨a, dx, r, ev, ha, hd, hr⟩ => by
    obtain ⟨p, hp⟩ := F.r
    exact ⟨a, B, dx, p, _, 1, _, ev, .inr ⟨ha, hd⟩, F.c, hp, rfl, q _ H2 e2 hr⟩)
/-- isinstance(book, Book) -/
theorem pd_isiB (F : BkF X.K B) (hm : X.mg "isinstance" = none) (hB : X.mg "Book" = some (.ref B)) (h : PD X T B e Γ H (.bk m rs)) {px : Pos} (hg : Gl X "isinstance" := by rfl) (hgB : Gl X "Book" := by rfl)
    (he : starEach [e, .Name "Book" px] X.env = (false, eval e X.env) :: starEach [.Name "Book" px] X.env := by rfl) (he2 : starEach [.Name "Book" px] X.env = (false, eval (.Name "Book" px) X.env) :: starEach [] X.env := by rfl) (hpl : (backTo pos (starEach [.Name "Book" px] X.env)).any (·.1) = false := by rfl) :
    PD X T B (.Call (.Name "isinstance" p) [e, .Name "Book" px] [] pos) Γ H (.b true) := fun σ H1 x s Q q =>
  PE.w (pe_callB (call_isiSl (.ref B)) hg hm PyProof.Rows.boot_isinstance (pa_cons (peS X e) (pa_cons (pe_glob (v := .ref B) hgB hB rfl (by decide)) pa_nil he2) he) (by decide) (by decide) he hpl)
    (h σ H1 x s _ fun v H2 e2 ⟨a, dx, r, ev, ha, hd, hr⟩ => ⟨a, B, dx, _, .ref B, true, by rw [ev], rfl, fun w hw => hw, .inr ⟨ha, hd⟩, F.c, F.i, F.k, q _ H2 e2 rfl⟩)
/-- a method of a book, a promise of data -/
theorem pd_methB {n : Nat} {R : List D → D → Prop} {g : Addr} {f : Str} {ap : Pos} {pl : Sem Bool} (F : BkF X.K B) (hm : Meth X.K B f g) (G : FnR X.prog X.w X.K X.mg X.base CX0 n g (spD T B R)) (hr : Room k X.A) (hn : n ≤ k) (h : PD X T B e Γ H d1) (hb : ∃ m rs, d1 = .bk m rs) (ha : AD X T B (a :: es) Γ H ds) (hR : R (d1 :: ds) d)
    (hst : starEach (a :: es) X.env = (false, eval a X.env) :: starEach es X.env := by rfl) (hpl : (backTo pos (starEach es X.env)).any (·.1) = false := by rfl)
    (ht : eval (.Call (.Attribute e f ap) (a :: es) [] pos) X.env = (do
      let ov ← eval e X.env
      standAt ap.atName
      let (f, first) ← holding [ov] (getMethod ov f pl)
      callWith pos f first (backTo pos (starEach (a :: es) X.env)) (backToKw pos (keywordEach [] X.env))) := by rfl) :
    PD X T B (.Call (.Attribute e f ap) (a :: es) [] pos) Γ H d := fun σ H1 x s Q q => by
  obtain ⟨m, rs, rfl⟩ := hb
  exact PE.w (pe_methSl (peS X e) F.c hm G (hr.mono hn) pass0 (paS X (a :: es)) hst hpl ht)
    (h σ H1 x s _ fun v H2 e2 at2 => by
      obtain ⟨b, dx, r, ev, hb, hd, hr⟩ := id at2
      refine ⟨b, dx, _, ev, .inr ⟨hb, hd⟩, ha σ H2 (x.trans e2) (s.mono e2) _ fun vs H3 e3 at3 => ⟨.bk m rs :: ds, d, ⟨v, vs, rfl, at2.mono e3, at3⟩, (e2.trans e3).tabs s.tabs, hR, fun w H' e4 at4 => q w H' ((e2.trans e3).trans e4) at4⟩⟩)
theorem pl_methB0 {n : Nat} {R : List D → List D → Prop} {g : Addr} {f : Str} {ap : Pos} {pl : Sem Bool} (F : BkF X.K B) (hm : Meth X.K B f g) (G : FnR X.prog X.w X.K X.mg X.base CX0 n g (spL T B R)) (hr : Room k X.A) (hn : n ≤ k) (h : PD X T B e Γ H d1) (hb : ∃ m rs, d1 = .bk m rs) (hR : R [d1] ds)
    (ht : eval (.Call (.Attribute e f ap) [] [] pos) X.env = (do
      let ov ← eval e X.env
      standAt ap.atName
      let (f, first) ← holding [ov] (getMethod ov f pl)
      callWith pos f first (backTo pos (starEach [] X.env)) (backToKw pos (keywordEach [] X.env))) := by rfl) :
    PL X T B (.Call (.Attribute e f ap) [] [] pos) Γ H ds := fun σ H1 x s Q q => by
  obtain ⟨m, rs, rfl⟩ := hb
  exact PE.w (pe_methSl0 (peS X e) F.c hm G (hr.mono hn) pass0 ht)
    (h σ H1 x s _ fun v H2 e2 at2 => by
      obtain ⟨b, dx, r, ev, hb, hd, hr⟩ := id at2
      exact ⟨b, dx, _, ev, .inr ⟨hb, hd⟩, [.bk m rs], ds, ⟨v, [], rfl, at2, rfl⟩, e2.tabs s.tabs, hR, fun p ws H' e3 e4 e5 at5 => q p ws H' (e2.free e3) (e2.trans e4) e5 at5⟩)
end
end G30
set_option Elab.async false
set_option linter.all false
set_option maxRecDepth 100000
set_option maxHeartbeats 4000000
set_option autoImplicit false
namespace G30
open PySem PySem.Spec PyProof.Rows L2 LamX StX SlX
/-! ### dicts of int keys -/
/-- the pairs of a dict: keys, data -/
def KvL (B : Addr) (H : Hp) : List (Int × D) → List (Key × V) → Prop
  | [], kvs => kvs = []
  | p :: r, kvs => ∃ v s, kvs = (.inl p.1, v) :: s ∧ At B H p.2 v ∧ KvL B H r s
def putD (ks : List (Int × D)) (k : Int) (d : D) : List (Int × D) :=
  if (ks.any fun p => decide (p.1 = k)) = true then ks.map (fun p => if p.1 = k then (p.1, d) else p) else ks ++ [(k, d)]
section
variable {B : Addr} {H H' : Hp} {T : List (Addr × Str)} {S : Addr → Prop}
theorem KvL.mono (e : Exb T S H H') : ∀ {ks : List (Int × D)} {kvs : List (Key × V)}, KvL B H ks kvs → KvL B H' ks kvs
  | [], _, h => h
  | _ :: _, _, h => by
    obtain ⟨v, s, e1, e2, e3⟩ := h
    exact ⟨v, s, e1, e2.mono e, KvL.mono e e3⟩
theorem KvL.len : ∀ {ks : List (Int × D)} {kvs : List (Key × V)}, KvL B H ks kvs → kvs.length = ks.length
  | [], _, h => by
    have h : _ = [] := h
    rw [h]; rfl
  | _ :: _, _, h => by
    obtain ⟨v, s, e1, e2, e3⟩ := h
    rw [e1, List.length_cons, List.length_cons, KvL.len e3]
theorem KvL.keys : ∀ {ks : List (Int × D)} {kvs : List (Key × V)}, KvL B H ks kvs → kvs.map (·.1) = (ks.map (·.1)).map Sum.inl
  | [], _, h => by
    have h : _ = [] := h
    rw [h]; rfl
  | _ :: _, _, h => by
    obtain ⟨v, s, e1, e2, e3⟩ := h
    rw [e1, List.map_cons, KvL.keys e3]; rfl
theorem inl_dec (a b : Int) : decide ((Sum.inl a : Key) = Sum.inl b) = decide (a = b) := decide_eq_decide.mpr ⟨fun z => by injection z, fun z => by rw [z]⟩
theorem KvL.any (k : Int) : ∀ {ks : List (Int × D)} {kvs : List (Key × V)}, KvL B H ks kvs → (kvs.any fun kv => decide (kv.1 = .inl k)) = (ks.any fun p => decide (p.1 = k))
  | [], _, h => by
    have h : _ = [] := h
    rw [h]; rfl
  | p :: _, _, h => by
    obtain ⟨v, s, e1, e2, e3⟩ := h
    rw [e1, List.any_cons, List.any_cons, KvL.any k e3]
    show (decide ((Sum.inl p.1 : Key) = Sum.inl k) || _) = _
    rw [inl_dec]
theorem KvL.app : ∀ {ks ls : List (Int × D)} {kvs lvs : List (Key × V)}, KvL B H ks kvs → KvL B H ls lvs → KvL B H (ks ++ ls) (kvs ++ lvs)
  | [], _, _, _, h, g => by
    have h : _ = [] := h
    rw [h]; exact g
  | _ :: _, _, _, _, h, g => by
    obtain ⟨v, s, e1, e2, e3⟩ := h
    rw [e1]
    exact ⟨v, s ++ _, rfl, e2, KvL.app e3 g⟩
theorem KvL.map {k : Int} {d : D} {v : V} (hv : At B H d v) : ∀ {ks : List (Int × D)} {kvs : List (Key × V)}, KvL B H ks kvs → KvL B H (ks.map fun p => if p.1 = k then (p.1, d) else p) (kvs.map fun kv => if kv.1 = .inl k then (kv.1, v) else kv)
  | [], _, h => by
    have h : _ = [] := h
    rw [h]; rfl
  | p :: _, _, h => by
    obtain ⟨w, s, e1, e2, e3⟩ := h
    rw [e1, List.map_cons, List.map_cons]
    by_cases q : p.1 = k
    · rw [if_pos q, if_pos (show (Sum.inl p.1 : Key) = Sum.inl k by rw [q])]
      exact ⟨v, _, rfl, hv, KvL.map hv e3⟩
    · rw [if_neg q, if_neg (show ¬ (Sum.inl p.1 : Key) = Sum.inl k from fun z => q (by injection z))]
      exact ⟨w, _, rfl, e2, KvL.map hv e3⟩
theorem KvL.put {k : Int} {d : D} {v : V} {ks : List (Int × D)} {kvs : List (Key × V)} (h : KvL B H ks kvs) (hv : At B H d v) : KvL B H (putD ks k d) (putK kvs (.inl k) v) := by
  unfold putD putK
  rw [h.any k]
  by_cases q : (ks.any fun p => decide (p.1 = k)) = true
  · rw [if_pos q, if_pos q]
    exact h.map hv
  · rw [if_neg q, if_neg q]
    exact h.app ⟨v, [], rfl, hv, rfl⟩
theorem KvL.val {k : Int} {d : D} : ∀ {ks : List (Int × D)} {kvs : List (Key × V)}, KvL B H ks kvs → ks.lookup k = some d → ∃ v, valV kvs (.inl k) = some v ∧ At B H d v
  | [], _, _, e => by cases e
  | p :: r, _, h, e => by
    obtain ⟨w, s, rfl, e2, e3⟩ := h
    by_cases q : p.1 = k
    · rw [List.lookup_cons, show (k == p.1) = true by rw [q]; exact beq_self_eq_true _] at e
      have e : p.2 = d := Option.some.inj e
      rw [← e]
      exact ⟨w, valV_pos (p := ((Sum.inl p.1 : Key), w)) (by rw [q]), e2⟩
    · rw [List.lookup_cons, show (k == p.1) = false from beq_false_of_ne fun z => q z.symm] at e
      obtain ⟨v, h1, h2⟩ := KvL.val e3 e
      exact ⟨v, by rw [valV_neg (p := ((Sum.inl p.1 : Key), w)) (fun z => q (by injection z))]; exact h1, h2⟩
theorem KvL.isSome (k : Int) {ks : List (Int × D)} {kvs : List (Key × V)} (h : KvL B H ks kvs) : (valV kvs (.inl k)).isSome = decide (k ∈ ks.map (·.1)) := by
  rw [← valV_any, h.any k]
  rw [Bool.eq_iff_iff, List.any_eq_true, decide_eq_true_eq, List.mem_map]
  exact ⟨fun ⟨p, h1, h2⟩ => ⟨p, h1, of_decide_eq_true h2⟩, fun ⟨p, h1, h2⟩ => ⟨p, h1, decide_eq_true h2⟩⟩
end
theorem putD_keys {ks : List (Int × D)} {k : Int} {d : D} : (∀ x, x ∈ (putD ks k d).map (·.1) ↔ x ∈ ks.map (·.1) ∨ x = k) ∧ ((ks.map (·.1)).Nodup → ((putD ks k d).map (·.1)).Nodup) ∧ (putD ks k d).length ≤ ks.length + 1 := by
  unfold putD
  by_cases q : (ks.any fun p => decide (p.1 = k)) = true
  · rw [if_pos q]
    have e : (ks.map (fun p => if p.1 = k then (p.1, d) else p)).map (·.1) = ks.map (·.1) := by
      rw [List.map_map]
      exact List.map_congr_left fun p _ => by
        show (if p.1 = k then (p.1, d) else p).1 = p.1
        split <;> rfl
    obtain ⟨p, h1, h2⟩ := List.any_eq_true.mp q
    rw [e]
    refine ⟨fun x => ⟨.inl, fun h => h.elim id fun z => ?_⟩, id, by rw [List.length_map]; omega⟩
    rw [z]
    exact List.mem_map.mpr ⟨p, h1, of_decide_eq_true h2⟩
  · rw [if_neg q]
    refine ⟨fun x => by rw [List.map_append, List.mem_append]; simp, fun h => ?_, by rw [List.length_append]; exact Nat.le_refl _⟩
    rw [List.map_append, List.nodup_append]
    refine ⟨h, by simp, fun a ha b hb => ?_⟩
    have hb : b = k := by simpa using hb
    subst hb
    rintro rfl
    obtain ⟨p, h1, h2⟩ := List.mem_map.mp ha
    exact q (List.any_eq_true.mpr ⟨p, h1, decide_eq_true h2⟩)
/-- a dict filled pair by pair -/
def foldP {α : Type} (kf : α → Int) (vf : α → D) (xs : List α) : List (Int × D) := xs.foldl (fun acc a => putD acc (kf a) (vf a)) []
theorem foldP_snoc {α : Type} (kf : α → Int) (vf : α → D) (xs : List α) (a : α) : foldP kf vf (xs ++ [a]) = putD (foldP kf vf xs) (kf a) (vf a) := by
  unfold foldP
  rw [List.foldl_append]
  rfl
theorem snoc_ind {α : Type} {motive : List α → Prop} (h0 : motive []) (h1 : ∀ xs a, motive xs → motive (xs ++ [a])) (l : List α) : motive l := by
  rw [← List.reverse_reverse l]
  induction l.reverse with
  | nil => exact h0
  | cons a r ih => rw [List.reverse_cons]; exact h1 _ _ ih
theorem foldP_keys {α : Type} (kf : α → Int) (vf : α → D) (xs : List α) : (∀ x, x ∈ (foldP kf vf xs).map (·.1) ↔ x ∈ xs.map kf) ∧ ((foldP kf vf xs).map (·.1)).Nodup ∧ (foldP kf vf xs).length ≤ xs.length := by
  refine snoc_ind (motive := fun xs => (∀ x, x ∈ (foldP kf vf xs).map (·.1) ↔ x ∈ xs.map kf) ∧ ((foldP kf vf xs).map (·.1)).Nodup ∧ (foldP kf vf xs).length ≤ xs.length) ⟨fun x => Iff.rfl, List.nodup_nil, Nat.le_refl _⟩ (fun xs a ih => ?_) xs
  rw [foldP_snoc]
  obtain ⟨h1, h2, h3⟩ := putD_keys (ks := foldP kf vf xs) (k := kf a) (d := vf a)
  refine ⟨fun x => ?_, h2 ih.2.1, by rw [List.length_append]; have := ih.2.2; show _ ≤ xs.length + 1; omega⟩
  rw [h1, ih.1, List.map_append, List.mem_append]
  simp
theorem foldP_new {α : Type} (kf : α → Int) (vf : α → D) (xs : List α) (h : (xs.map kf).Nodup) : foldP kf vf xs = xs.map fun a => (kf a, vf a) := by
  refine snoc_ind (motive := fun xs => (xs.map kf).Nodup → foldP kf vf xs = xs.map fun a => (kf a, vf a)) (fun _ => rfl) (fun xs a ih h => ?_) xs h
  rw [List.map_append, List.nodup_append] at h
  rw [foldP_snoc, ih h.1, List.map_append]
  unfold putD
  rw [if_neg]
  · rfl
  · intro z
    obtain ⟨p, h1, h2⟩ := List.any_eq_true.mp z
    obtain ⟨b, h3, rfl⟩ := List.mem_map.mp h1
    exact h.2.2 (kf b) (List.mem_map.mpr ⟨b, h3, rfl⟩) (kf a) (by simp) (of_decide_eq_true h2)
section
variable {X : Cx} {T : List (Addr × Str)} {B : Addr} {Γ Γ' : List (Option D)} {H H' : Hp} {d d1 d2 : D} {ds : List D} {e a b c : Expr} {es : List Expr} {pos p p2 : Pos} {i j k : Nat} {x : Str} {ks : List (Int × D)} {F : Ends} {rest : List Stmt}
/-- e gives a new dict -/
def PN (X : Cx) (T : List (Addr × Str)) (B : Addr) (e : Expr) (Γ : List (Option D)) (H : Hp) (ks : List (Int × D)) : Prop := ∀ σ H1, Ex T H H1 → Sl T B H1 σ Γ → ∀ Q : VK, (∀ p kvs H2, Nw H1 p → Ex T H1 H2 → H2 p = some (.dK kvs) → KvL B H2 ks kvs → Q (.ref p) H2) → wE X e σ H1 Q
theorem PN.is {ls : List (Int × D)} (h : PN X T B e Γ H ks) (g : ks = ls) : PN X T B e Γ H ls := g ▸ h
theorem dc_run {α : Type} {xs : List α} {f : α → D} {kf : α → Int} {vf : α → D} {Γ' : α → List (Option D)} {tt : TT} {σ : L2.St} {H1 : Hp} {Q : VK} {tg iter kx vx : Expr} {scope : Scope} {own : List (Str × Nat)} {gt : TG} {is : List Nat} (e : Ex T H H1) (s : Sl T B H1 σ Γ)
    (hi : ID X T B Nob tg iter Γ H (xs.map f)) (hT : ∀ a ∈ xs, Gd T B gt is (f a) (wipeG Γ (own.map (·.2))) (Γ' a)) (his : ∀ i ∈ is, i ∈ own.map (·.2))
    (ht : ∀ a ∈ xs, ∀ σ' H', Ex T H H' → Sl T B H' σ' (Γ' a) → ∀ R : Bool → Hp → Prop, (∀ H2, Ex T H' H2 → R true H2) → tt σ' H' R)
    (hk : ∀ a ∈ xs, ∀ s0 H0 C cl fp, PD (bk X scope s0 H0 C cl fp) T B kx (Γ' a) H (.i (kf a))) (he : ∀ a ∈ xs, ∀ s0 H0 C cl fp, PD (bk X scope s0 H0 C cl fp) T B vx (Γ' a) H (vf a)) (hz : xs.length < sizeLine)
    (q : ∀ (l : Addr) (kvs : List (Key × V)) (H2 : Hp), Nw H1 l → Ex T H1 H2 → H2 l = some (.dK kvs) → KvL B H2 (foldP kf vf xs) kvs → Q (.ref l) H2) :
    tDc (wI X tg iter) gt tt (wEb X scope kx) (wEb X scope vx) (own.map (·.2)) σ H1 Q := by
  refine hi σ H1 e s _ fun J H2 e2 wk => fun Dl hD => ?_
  refine ⟨fun i m H' => m = xs.length - i ∧ i ≤ xs.length ∧ Ex T H2 H' ∧ ∃ acc, H' Dl = some (.dK acc) ∧ KvL B H' (foldP kf vf (xs.take i)) acc, ⟨_, rfl, Nat.zero_le _, Ex.new hD, [], upd_same, rfl⟩, ?_⟩
  rintro i m H' ⟨rfl, hle, eH, acc, hacc, hat⟩
  obtain ⟨w1, w2, w3⟩ := wk H' eH
  rw [List.length_map] at w1 w2
  by_cases hlt : i < xs.length
  · have hmem : xs[i] ∈ xs := List.getElem_mem hlt
    refine .inr ⟨w1 i hlt, fun H'' => i + 1 ≤ xs.length ∧ Ex T H2 H'' ∧ ∃ acc, H'' Dl = some (.dK acc) ∧ KvL B H'' (foldP kf vf (xs.take (i + 1))) acc, fun H'' z => ⟨_, by omega, rfl, z⟩, fun x' H'' hy => ?_⟩
    obtain ⟨e3, at3⟩ := w3 i (f xs[i]) x' H'' (by rw [List.getElem?_map, List.getElem?_eq_getElem hlt]; rfl) hy
    have s3 : Sl T B H'' (wipe σ (own.map (·.2))) (wipeG Γ (own.map (·.2))) := (s.mono ((e2.trans eH).trans e3)).wipe _
    refine hT xs[i] hmem _ H'' x' s3 at3 _ fun σ' s4 hw => ⟨?_, ?_⟩
    · rw [hw _ his]
      exact wipe_wipe σ _ _ fun i hi => hi
    · refine ht xs[i] hmem σ' H'' (((e.trans e2).trans eH).trans e3) s4 _ fun H4 e4 => ?_
      have tf : xs.take (i + 1) = xs.take i ++ [xs[i]] := by rw [List.take_add_one, List.getElem?_eq_getElem hlt]; rfl
      have hacc4 : H4 Dl = some (.dK acc) := Ex.dk e4 (Ex.dk e3 hacc)
      rw [if_pos rfl]
      intro s0 H0 C cl fp
      refine hk xs[i] hmem s0 H0 C cl fp σ' H4 ((((e.trans e2).trans eH).trans e3).trans e4) (s4.mono e4) _ fun y H5 e5 at5 => ?_
      intro s0 H0 C cl fp
      refine he xs[i] hmem s0 H0 C cl fp σ' H5 (((((e.trans e2).trans eH).trans e3).trans e4).trans e5) (s4.mono (e4.trans e5)) _ fun v H6 e6 at6 => ?_
      have hacc6 : H6 Dl = some (.dK acc) := Ex.dk e6 (Ex.dk e5 hacc4)
      have em : Exb T (fun b => b = Dl) H6 (upd H6 Dl (.dK (putK acc (.inl (kf xs[i])) v))) := (Exb.refl H6).mut rfl hacc6 rfl (fun ps z => by cases z)
      have e26 : Ex T H2 H6 := (((eH.trans e3).trans e4).trans e5).trans e6
      have hat6 := hat.mono (((e3.trans e4).trans e5).trans e6)
      refine ⟨acc, .inl (kf xs[i]), at5, hacc6, ?_, hlt, ?_, _, upd_same, ?_⟩
      · have l1 := hat.len
        have l2 := (foldP_keys kf vf (xs.take i)).2.2
        rw [List.length_take] at l2
        omega
      · exact ((Ex.to (S := fun b => b = Dl) e26).trans em).drop fun b hb => by rw [hb]; exact Nw.of hD
      · rw [tf, foldP_snoc]
        exact (hat6.put at6).mono em
  · have e1 : i = xs.length := by omega
    subst e1
    refine .inl ⟨w2 _ (Nat.le_refl _), q Dl acc H' (e2.free hD) (e2.trans eH) hacc ?_⟩
    rw [List.take_length] at hat
    exact hat
theorem pn_dc {α : Type} (xs : List α) (f : α → D) (kf : α → Int) (vf : α → D) (Γ' : α → List (Option D)) {tg iter kx vx : Expr} {scope : Scope} {own : List (Str × Nat)} {gt : TG} {is : List Nat} (hc : X.calm = true) (hN : X.N.Nodup) (hi : ID X T B Nob tg iter Γ H (xs.map f)) (ok : BlkOk X.N X.env.scope scope own)
    (hg : ∀ (s : Shared) (H : Hp) (C : Addr) (cl : List (Str × Addr)) (fp : List Addr), PG (X.blk s H scope (compEnvC scope cl C X.env) fp) tg gt) (hT : ∀ a ∈ xs, Gd T B gt is (f a) (wipeG Γ (own.map (·.2))) (Γ' a)) (his : ∀ i ∈ is, i ∈ own.map (·.2))
    (hk : ∀ a ∈ xs, ∀ s0 H0 C cl fp, PD (bk X scope s0 H0 C cl fp) T B kx (Γ' a) H (.i (kf a))) (he : ∀ a ∈ xs, ∀ s0 H0 C cl fp, PD (bk X scope s0 H0 C cl fp) T B vx (Γ' a) H (vf a)) (hz : xs.length < sizeLine)
    (hs : ∀ x, foldedSetIterable iter X.env x = pure x := by intro _; rfl) : PN X T B (.DictComp kx vx [⟨tg, iter, [], 0⟩] scope pos) Γ H (foldP kf vf xs) := fun σ H1 e s Q q =>
  PE.w (pe_dc hc hN (piS X tg iter) ok hg (fun s0 H0 C cl fp => pts_nil) peB peB hs) (dc_run e s hi hT his (fun a ha σ' H' e' s' R r => r H' (Exb.refl _)) hk he hz q)
theorem boot_sorted : bootBuiltins "sorted" = some (.builtin "sorted") := by decide +kernel
theorem asc_uniq : ∀ {ys zs : List Int}, ys.Pairwise (· < ·) → zs.Pairwise (· < ·) → (∀ x, x ∈ ys ↔ x ∈ zs) → ys = zs
  | [], [], _, _, _ => rfl
  | [], z :: zs, _, _, h => by have := (h z).mpr List.mem_cons_self; cases this
  | y :: ys, [], _, _, h => by have := (h y).mp List.mem_cons_self; cases this
  | y :: ys, z :: zs, h1, h2, h => by
    obtain ⟨a1, a2⟩ := List.pairwise_cons.mp h1
    obtain ⟨b1, b2⟩ := List.pairwise_cons.mp h2
    have e : y = z := by
      rcases List.mem_cons.mp ((h y).mp List.mem_cons_self) with e | e
      · exact e
      · rcases List.mem_cons.mp ((h z).mpr List.mem_cons_self) with e' | e'
        · exact e'.symm
        · have := a1 z e'; have := b1 y e; omega
    subst e
    rw [asc_uniq a2 b2 fun x => ?_]
    constructor
    · intro hx
      rcases List.mem_cons.mp ((h x).mp (List.mem_cons_of_mem _ hx)) with e | e
      · have := a1 x hx; omega
      · exact e
    · intro hx
      rcases List.mem_cons.mp ((h x).mpr (List.mem_cons_of_mem _ hx)) with e | e
      · have := b1 x hx; omega
      · exact e
theorem asc_of {ys : List Int} (h : ys.Pairwise (· ≤ ·)) (hn : ys.Nodup) : ys.Pairwise (· < ·) := by
  have := h.and hn
  exact this.imp fun ⟨a, b⟩ => by omega
/-- sorted(a new dict), its keys zs when ascending -/
theorem pl_sortedN {zs : List Int} (hc : X.calm = true) (hm : X.mg "sorted" = none) (h : PN X T B e Γ H ks) (hl : ks.length < 64) (hn : (ks.map (·.1)).Nodup) (hz : zs.Pairwise (· < ·)) (hzs : ∀ x, x ∈ zs ↔ x ∈ ks.map (·.1)) (hg : Gl X "sorted" := by rfl)
    (he : starEach [e] X.env = (false, eval e X.env) :: starEach [] X.env := by rfl) (hpl : (backTo pos (starEach [] X.env)).any (·.1) = false := by rfl) : PL X T B (.Call (.Name "sorted" p) [e] [] pos) Γ H (zs.map .i) := fun σ H1 x s Q q =>
  PE.w (pe_callB (call_sortedDI hc) hg hm boot_sorted (pa_cons (peS X e) pa_nil he) (by decide) (by decide) he hpl) (h σ H1 x s _ fun p kvs H2 hp e2 hd hk =>
    ⟨p, kvs, ks.map (·.1), rfl, .inl hd, hk.keys, by rw [List.length_map]; exact hl, fun ys l hy1 hy2 hn2 => by
      have ea : ys.Pairwise (· < ·) := asc_of hy2 (hy1.nodup_iff.mpr hn)
      have e : ys = zs := asc_uniq ea hz fun x => by rw [hy1.mem_iff, hzs]
      subst e
      exact q l _ _ (e2.free hn2) (e2.trans (Ex.new hn2)) upd_same (AtL.of_ints _)⟩)
/-- a dict that a name holds -/
theorem dkv (i : Nat) {q : Addr} {σ : L2.St} (s : Sl T B H' σ Γ) (hΓ : Γ[i]? = some (some (.r q))) : σ[i]? = some (some (.ref q)) := by
  obtain ⟨v, e1, e2⟩ := s.at_ i _ hΓ
  have e2 : v = .ref q := e2
  rw [e2] at e1
  exact e1
theorem room_in {A : Around} (hr : Room k A) : A.units + 1 < cLine := by
  have := hr.un
  omega
theorem pd_dinV (i : Nat) {q : Addr} {kvs : List (Key × V)} {m : Int} (hr : Room k X.A) (ha : PD X T B a Γ H (.i m)) (hd : H q = some (.dK kvs)) (hk : KvL B H ks kvs) (hN : X.N[i]? = some x := by rfl) (hΓ : Γ[i]? = some (some (.r q)) := by rfl) (hv : Vis X.env.scope x := by first | exact .inl rfl | exact .inr (.inl rfl) | exact .inr (.inr rfl)) (hdb : (x == ("__debug__" : Str)) = false := by decide) (hcd : (x == ("__classdict__" : Str)) = false := by decide)
    (hm : behindInMarks .In (.Name x p2) = false := by with_unfolding_all rfl) : PD X T B (.Compare a [.In] [.Name x p2] pos) Γ H (.b (decide (m ∈ ks.map (·.1)))) := fun σ H1 e s Q r =>
  PE.w (pe_cmp (pc_din (room_in hr) (peS X a) (pe_var hN hv hdb hcd)) hm) (ha σ H1 e s _ fun v H2 e2 at2 => ⟨_, dkv i (s.mono e2) hΓ, q, valV kvs (.inl m), rfl, by
    have at2 : v = .int m := at2
    rw [at2]
    exact DGet.k (k := .inl m) (Ex.dk (e.trans e2) hd), by
    rw [hk.isSome m]
    exact r _ H2 e2 rfl⟩)
theorem pd_dget (i : Nat) {q : Addr} {kvs : List (Key × V)} {m : Int} (hr : Room k X.A) (hd : H q = some (.dK kvs)) (hk : KvL B H ks kvs) (hb : PD X T B b Γ H (.i m)) (hl : ks.lookup m = some d) (hN : X.N[i]? = some x := by rfl) (hΓ : Γ[i]? = some (some (.r q)) := by rfl) (hv : Vis X.env.scope x := by first | exact .inl rfl | exact .inr (.inl rfl) | exact .inr (.inr rfl)) (hdb : (x == ("__debug__" : Str)) = false := by decide) (hcd : (x == ("__classdict__" : Str)) = false := by decide)
    (hs : NoSl b := by exact fun _ _ => rfl) : PD X T B (.Subscript (.Name x p2) b pos) Γ H d := fun σ H1 e s Q r =>
  PE.w (pe_dget (room_in hr) (pe_var hN hv hdb hcd) (peS X b) hs) ⟨_, dkv i s hΓ, hb σ H1 e s _ fun v H2 e2 at2 => by
    have at2 : v = .int m := at2
    obtain ⟨u, h1, h2⟩ := (hk.mono (e.trans e2)).val hl
    refine ⟨q, u, rfl, ?_, r u H2 e2 h2⟩
    rw [at2, ← h1]
    exact DGet.k (k := .inl m) (Ex.dk (e.trans e2) hd)⟩
theorem pd_lenV (i : Nat) {q : Addr} {kvs : List (Key × V)} (hm : X.mg "len" = none) (hd : H q = some (.dK kvs)) (hk : KvL B H ks kvs) (hN : X.N[i]? = some x := by rfl) (hΓ : Γ[i]? = some (some (.r q)) := by rfl) (hv : Vis X.env.scope x := by first | exact .inl rfl | exact .inr (.inl rfl) | exact .inr (.inr rfl)) (hdb : (x == ("__debug__" : Str)) = false := by decide) (hcd : (x == ("__classdict__" : Str)) = false := by decide)
    (hg : Gl X "len" := by rfl) (he : starEach [.Name x p2] X.env = (false, eval (.Name x p2) X.env) :: starEach [] X.env := by rfl) (hpl : (backTo pos (starEach [] X.env)).any (·.1) = false := by rfl) : PD X T B (.Call (.Name "len" p) [.Name x p2] [] pos) Γ H (.i ks.length) := fun σ H1 e s Q r =>
  PE.w (pe_callB call_lenD hg hm boot_len (pa_cons (pe_var hN hv hdb hcd) pa_nil he) (by decide) (by decide) he hpl) ⟨_, dkv i s hΓ, q, kvs, rfl, Ex.dk e hd, by rw [hk.len]; exact r _ H1 (Exb.refl _) rfl⟩
/-- sorted(a dict that a name holds) -/
theorem pl_sortedV (i : Nat) {q : Addr} {kvs : List (Key × V)} {zs : List Int} (hc : X.calm = true) (hm : X.mg "sorted" = none) (hd : H q = some (.dK kvs)) (hk : KvL B H ks kvs) (hl : ks.length < 64) (hn : (ks.map (·.1)).Nodup) (hz : zs.Pairwise (· < ·)) (hzs : ∀ x, x ∈ zs ↔ x ∈ ks.map (·.1))
    (hN : X.N[i]? = some x := by rfl) (hΓ : Γ[i]? = some (some (.r q)) := by rfl) (hv : Vis X.env.scope x := by first | exact .inl rfl | exact .inr (.inl rfl) | exact .inr (.inr rfl)) (hdb : (x == ("__debug__" : Str)) = false := by decide) (hcd : (x == ("__classdict__" : Str)) = false := by decide)
    (hg : Gl X "sorted" := by rfl) (he : starEach [.Name x p2] X.env = (false, eval (.Name x p2) X.env) :: starEach [] X.env := by rfl) (hpl : (backTo pos (starEach [] X.env)).any (·.1) = false := by rfl) : PL X T B (.Call (.Name "sorted" p) [.Name x p2] [] pos) Γ H (zs.map .i) := fun σ H1 e s Q r =>
  PE.w (pe_callB (call_sortedDI hc) hg hm boot_sorted (pa_cons (pe_var hN hv hdb hcd) pa_nil he) (by decide) (by decide) he hpl) ⟨_, dkv i s hΓ, q, kvs, ks.map (·.1), rfl, .inl (Ex.dk e hd), hk.keys, by rw [List.length_map]; exact hl, fun ys l hy1 hy2 hn2 => by
      have ea : ys.Pairwise (· < ·) := asc_of hy2 (hy1.nodup_iff.mpr hn)
      have e : ys = zs := asc_uniq ea hz fun x => by rw [hy1.mem_iff, hzs]
      subst e
      exact r l _ _ hn2 (Ex.new hn2) upd_same (AtL.of_ints _)⟩
/-- sorted of a list of ints -/
theorem pl_sortedL {ns zs : List Int} (hm : X.mg "sorted" = none) (h : PR X T B e Γ H (ns.map .i)) (hl : ns.length < 64) (hn : ns.Nodup) (hz : zs.Pairwise (· < ·)) (hzs : ∀ x, x ∈ zs ↔ x ∈ ns) (hg : Gl X "sorted" := by rfl)
    (he : starEach [e] X.env = (false, eval e X.env) :: starEach [] X.env := by rfl) (hpl : (backTo pos (starEach [] X.env)).any (·.1) = false := by rfl) : PL X T B (.Call (.Name "sorted" p) [e] [] pos) Γ H (zs.map .i) := fun σ H1 x s Q q =>
  PE.w (pe_callB cr_sorted hg hm boot_sorted (pa_cons (peS X e) pa_nil he) (by decide) (by decide) he hpl) (h σ H1 x s _ fun p vs H2 e2 hp hv => ⟨p, ns, rfl, by rw [← AtL.ints hv]; exact hp, hl, fun ys l hy1 hy2 hn2 => by
      have ea : ys.Pairwise (· < ·) := asc_of hy2 (hy1.nodup_iff.mpr hn)
      have e : ys = zs := asc_uniq ea hz fun x => by rw [hy1.mem_iff, hzs]
      subst e
      exact q l _ _ (e2.free hn2) (e2.trans (Ex.new hn2)) upd_same (AtL.of_ints _)⟩)
end
end G30
set_option Elab.async false
set_option linter.all false
set_option maxRecDepth 100000
set_option maxHeartbeats 4000000
set_option autoImplicit false
namespace G30
open PySem PySem.Spec PyProof.Rows L2 LamX StX SlX
/-! ### d.update(e) -/
def mergeK (kvs more : List (Key × V)) : List (Key × V) := more.foldl (fun acc kv => putK acc kv.1 kv.2) kvs
theorem KV.merge : ∀ {more : List (Key × V)} {ms : List (Key × Value)} {kvs : List (Key × V)} {vs : List (Key × Value)}, KV kvs vs → KV more ms → KV (mergeK kvs more) (merged vs ms)
  | [], _, _, _, r, q => by
    cases q
    exact r
  | p :: more, _, kvs, vs, r, q => by
    cases q with
    | cons h t =>
      obtain ⟨h1, h2⟩ := h
      show KV (mergeK (putK kvs p.1 p.2) more) (merged (stored vs _ _) _)
      rw [← h1]
      exact KV.merge (r.put p.1 h2) t
theorem mergeK_len : ∀ (more kvs : List (Key × V)), (mergeK kvs more).length ≤ kvs.length + more.length
  | [], kvs => Nat.le_refl _
  | p :: more, kvs => by
    have h1 := mergeK_len more (putK kvs p.1 p.2)
    have h2 := length_putK kvs p.1 p.2
    show (mergeK (putK kvs p.1 p.2) more).length ≤ _
    rw [List.length_cons]
    omega
def rUpd : V → List V → Hp → VK → Prop := fun x vs H Q => ∃ (a b : Addr) (kvs more : List (Key × V)), x = .ref a ∧ vs = [.ref b] ∧ a ≠ b ∧ H a = some (.dK kvs) ∧ H b = some (.dK more) ∧ kvs.length + more.length ≤ sizeLine ∧ Q .non (upd H a (.dK (mergeK kvs more)))
theorem mt_update {X : Cx} : MtR X "dict.update" rUpd := by
  intro pins s σ H x vs v us Q I rx rv h
  obtain ⟨a, b, kvs, more, ex, ev, hab, ha, hb, hz, q⟩ := h
  subst ex
  subst ev
  obtain rfl : v = Value.ref a := rx
  obtain ⟨u, rfl, ru⟩ := vals1 rv
  obtain rfl : u = Value.ref b := ru
  obtain ⟨z1, d1, va, ra, da⟩ := dk_of I.hok ha
  obtain ⟨z2, d2, vb, rb, db⟩ := dk_of I.hok hb
  refine call_meetsIn PySem.F.slot_dict_update da.typeIs PySem.F.entry_dict_update (PySem.F.args_dict_update_2 _ _) (meets_dict_update (mixKind X.prog X.w) a b hab d2)
    ⟨va, vb, da, db, by rw [← ra.length, ← rb.length]; exact hz, fun h' hm _ hs => ?_⟩
  refine ⟨.non, _, d_write (t' := s.toks) I (by rw [ha]; exact True.intro) hs ?_ (dk_new (kvs := mergeK kvs more) (by have := mergeK_len more kvs; omega) d1 (KV.merge ra rb) hm), rfl, q⟩
  exact let ⟨q, _, _, hq, _⟩ := hm; ⟨q, hq⟩
def mergeD (ks ls : List (Int × D)) : List (Int × D) := ls.foldl (fun acc p => putD acc p.1 p.2) ks
theorem KvL.merge {B : Addr} {H : Hp} : ∀ {ls ks : List (Int × D)} {more kvs : List (Key × V)}, KvL B H ks kvs → KvL B H ls more → KvL B H (mergeD ks ls) (mergeK kvs more)
  | [], _, _, _, h, g => by
    have g : _ = [] := g
    rw [g]
    exact h
  | p :: ls, ks, _, kvs, h, g => by
    obtain ⟨v, s, rfl, g1, g2⟩ := g
    show KvL B H (mergeD (putD ks p.1 p.2) ls) (mergeK (putK kvs (.inl p.1) v) s)
    exact KvL.merge (h.put g1) g2
theorem mergeD_keys : ∀ (ls ks : List (Int × D)), (∀ x, x ∈ (mergeD ks ls).map (·.1) ↔ x ∈ ks.map (·.1) ∨ x ∈ ls.map (·.1)) ∧ ((ks.map (·.1)).Nodup → ((mergeD ks ls).map (·.1)).Nodup) ∧ (mergeD ks ls).length ≤ ks.length + ls.length
  | [], ks => ⟨fun x => by show _ ↔ _ ∨ x ∈ []; simp [mergeD], id, Nat.le_refl _⟩
  | p :: ls, ks => by
    obtain ⟨h1, h2, h3⟩ := mergeD_keys ls (putD ks p.1 p.2)
    obtain ⟨g1, g2, g3⟩ := putD_keys (ks := ks) (k := p.1) (d := p.2)
    refine ⟨fun x => ?_, fun z => h2 (g2 z), ?_⟩
    · show x ∈ (mergeD (putD ks p.1 p.2) ls).map (·.1) ↔ _
      rw [h1, g1, List.map_cons, List.mem_cons, or_assoc]
    · show (mergeD (putD ks p.1 p.2) ls).length ≤ _
      rw [List.length_cons]
      omega
section
variable {X : Cx} {T : List (Addr × Str)} {B : Addr} {Γ Γ' : List (Option D)} {H H' : Hp} {d d1 d2 : D} {ds : List D} {e a b c : Expr} {es : List Expr} {pos pos' p p2 : Pos} {j k : Nat} {x y : Str} {ks ls : List (Int × D)} {F : Ends} {rest : List Stmt}
theorem sd_update (i : Nat) {apos : Pos} {q : Addr} {kvs : List (Key × V)} (hd : H q = some (.dK kvs)) (hk : KvL B H ks kvs) (h : PN X T B e Γ H ls) (hz : ks.length + ls.length ≤ sizeLine)
    (k : ∀ H1 kvs', Exb T (fun b => b = q) H H1 → H1 q = some (.dK kvs') → KvL B H1 (mergeD ks ls) kvs' → SD X T B rest Γ H1 F) (hN : X.N[i]? = some x := by rfl) (hΓ : Γ[i]? = some (some (.r q)) := by rfl) (hv : Vis X.env.scope x := by first | exact .inl rfl | exact .inr (.inl rfl) | exact .inr (.inr rfl)) (hdb : (x == ("__debug__" : Str)) = false := by decide) (hcd : (x == ("__classdict__" : Str)) = false := by decide)
    (hs : swapsWith (.Call (.Attribute (.Name x p2) "update" apos) [e] [] pos') none pos.line X.env = pure false := by rfl)
    (hbase : attributeBase (.Name x p2) "update" X.env (eval (.Name x p2) X.env) = eval (.Name x p2) X.env := by rfl) (hline : (apos.endLine == pos'.line) = true := by rfl) (he : starEach [e] X.env = (false, eval e X.env) :: starEach [] X.env := by rfl) (hpl : (backTo pos' (starEach [] X.env)).any (·.1) = false := by rfl)
    (hfew : ((backTo pos' (starEach [e] X.env)).all (fun x => !x.1) && (backToKw pos' (keywordEach [] X.env)).all (fun x => x.1.isSome)
      && decide (([e] : List Expr).length + ([] : List Keyword).length + (if ([] : List Keyword).isEmpty then 0 else 1) < 30)) = true := by rfl) :
    SD X T B (.Expr (.Call (.Attribute (.Name x p2) "update" apos) [e] [] pos') pos :: rest) Γ H F := fun σ H1 x s =>
  wS_cons (ps_expr (pe_bm PySem.F.plainAttrs_dict PySem.F.slot_dict_update PySem.F.type_dict_update mt_update (pe_var hN hv hdb hcd) (pa_cons (peS X e) pa_nil he) hbase hfew hline he hpl) hs) ⟨_, dkv i s hΓ, .inr (.inr (.inl ⟨rfl, .inl ⟨kvs, Ex.dk x hd⟩⟩)), h σ H1 x s _ fun p more H2 hn e2 hp hm => by
    have hd1 := Ex.dk x hd
    have hqp : q ≠ p := fun z => by
      rw [z] at hd1
      obtain ⟨ps, y⟩ := hn _ hd1
      cases y
    have hd2 : H2 q = some (.dK kvs) := Ex.dk e2 hd1
    have hk2 := hk.mono (x.trans e2)
    have em : Exb T (fun b => b = q) H2 (upd H2 q (.dK (mergeK kvs more))) := (Exb.refl H2).mut rfl hd2 rfl (fun ps z => by cases z)
    exact ⟨q, p, kvs, more, rfl, rfl, hqp, hd2, hp, by rw [hk2.len, hm.len]; exact hz, k _ _ ((Ex.to (x.trans e2)).trans em) upd_same ((hk2.merge hm).mono em) σ _ (Exb.refl _) (s.mono ((Ex.to e2).trans em))⟩⟩
/-- a, b = a new dict, e -/
theorem sd_parN {i : Nat} (hc : X.calm = true) (hN : X.N.Nodup) (hi : X.N[i]? = some x) (hj : X.N[j]? = some y) (hij : i ≠ j) (hx : X.env.scope.names.lookup x = some .local) (hy : X.env.scope.names.lookup y = some .local) {px py pt : Pos} {kt k2 pt2}
    (ha : PN X T B a Γ H ks) (hb : PD X T B b Γ H d) (hw : swappedStores [.Tuple [.Name x px, .Name y py] kt pt] (.Tuple [a, b] k2 pt2) X.env = pure (some [x, y]))
    (k : ∀ p kvs H1, Nw H p → Ex T H H1 → H1 p = some (.dK kvs) → KvL B H1 ks kvs → SD X T B rest ((Γ.set i (some (.r p))).set j (some d)) H1 F)
    (hs : swapsWithSole [.Tuple [.Name x px, .Name y py] kt pt] (.Tuple [a, b] k2 pt2) pos.line X.env = pure false := by rfl)
    (he : starEach [a, b] X.env = (false, eval a X.env) :: starEach [b] X.env := by rfl) (he2 : starEach [b] X.env = (false, eval b X.env) :: starEach [] X.env := by rfl) : SD X T B (.Assign [.Tuple [.Name x px, .Name y py] kt pt] (.Tuple [a, b] k2 pt2) pos :: rest) Γ H F := fun σ H1 x s =>
  wS_cons (ps_par hc hN hi hj hij hx hy (pa_cons (peS X a) (pa_cons (peS X b) pa_nil he2) he) hw hs) (ha σ H1 x s _ fun p kvs H2 hn e2 hp hv => hb σ H2 (x.trans e2) (s.mono e2) _ fun v H3 e3 at3 =>
    ⟨.ref p, v, rfl, k p kvs H3 (x.free hn) ((x.trans e2).trans e3) (Ex.dk e3 hp) (hv.mono e3) _ H3 (Exb.refl _) (((s.mono (e2.trans e3)).set (show At B H3 (.r p) (.ref p) from rfl)).set at3)⟩)
/-! ### a comprehension given to a name -/
theorem sd_setLc {α : Type} (xs : List α) (f g : α → D) (q : α → Bool) (Γ' : α → List (Option D)) {i : Nat} {py : Pos} {tg iter elt : Expr} {ifs : List Expr} {scope : Scope} {own : List (Str × Nat)} {gt : TG} {is : List Nat} {spos : Pos} {tt : TT} (hc : X.calm = true) (hN : X.N.Nodup) (hy : X.N[i]? = some y) (hyl : X.env.scope.names.lookup y = some .local)
    (hsw : swapsWith (.ListComp elt [⟨tg, iter, ifs, 0⟩] scope pos) (some (.Name y py)) spos.line X.env = pure true)
    (hi : ID X T B Nob tg iter Γ H (xs.map f)) (ok : BlkOk X.N X.env.scope scope own)
    (hg : ∀ (s : Shared) (H : Hp) (C : Addr) (cl : List (Str × Addr)) (fp : List Addr), PG (X.blk s H scope (compEnvC scope cl C X.env) fp) tg gt) (hT : ∀ a ∈ xs, Gd T B gt is (f a) (wipeG Γ (own.map (·.2))) (Γ' a)) (his : ∀ i ∈ is, i ∈ own.map (·.2))
    (hpt : ∀ (s : Shared) (H : Hp) (C : Addr) (cl : List (Str × Addr)) (fp : List Addr), PTs (X.blk s H scope (compEnvC scope cl C X.env) fp) ifs tt)
    (ht : ∀ a ∈ xs, ∀ σ' H', Ex T H H' → Sl T B H' σ' (Γ' a) → ∀ R : Bool → Hp → Prop, (∀ H2, Ex T H' H2 → R (q a) H2) → tt σ' H' R)
    (he : ∀ a ∈ xs, q a = true → ∀ s0 H0 C cl fp, PD (bk X scope s0 H0 C cl fp) T B elt (Γ' a) H (g a)) (hz : xs.length < sizeLine)
    (k : ∀ p vs H1, Nw H p → Ex T H H1 → H1 p = some (.lst vs) → AtL B H1 ((xs.filter q).map g) vs → SD X T B rest (Γ.set i (some (.r p))) H1 F)
    (hs : ∀ x, foldedSetIterable iter X.env x = pure x := by intro _; rfl) : SD X T B (.Assign [.Name y py] (.ListComp elt [⟨tg, iter, ifs, 0⟩] scope pos) spos :: rest) Γ H F := fun σ H1 x s =>
  wS_cons (ps_setLc hc hN hy hyl hsw (piS X tg iter) ok hg hpt peB hs) (lc_run x s hi hT his ht he hz fun p vs H2 hn e2 hp hv => k p vs H2 (x.free hn) (x.trans e2) hp hv _ H2 (Exb.refl _) ((s.mono e2).set rfl))
theorem sd_setLcI {α : Type} (xs : List α) (f g : α → D) (q : α → Bool) (Γ' : α → List (Option D)) {i : Nat} {py : Pos} {tg iter elt c : Expr} {scope : Scope} {own : List (Str × Nat)} {gt : TG} {is : List Nat} {spos : Pos} (hc : X.calm = true) (hN : X.N.Nodup) (hy : X.N[i]? = some y) (hyl : X.env.scope.names.lookup y = some .local)
    (hsw : swapsWith (.ListComp elt [⟨tg, iter, [c], 0⟩] scope pos) (some (.Name y py)) spos.line X.env = pure true)
    (hi : ID X T B Nob tg iter Γ H (xs.map f)) (ok : BlkOk X.N X.env.scope scope own)
    (hg : ∀ (s : Shared) (H : Hp) (C : Addr) (cl : List (Str × Addr)) (fp : List Addr), PG (X.blk s H scope (compEnvC scope cl C X.env) fp) tg gt) (hT : ∀ a ∈ xs, Gd T B gt is (f a) (wipeG Γ (own.map (·.2))) (Γ' a)) (his : ∀ i ∈ is, i ∈ own.map (·.2))
    (ht : ∀ a ∈ xs, ∀ s0 H0 C cl fp, TD (bk X scope s0 H0 C cl fp) T B c (Γ' a) H (q a))
    (he : ∀ a ∈ xs, q a = true → ∀ s0 H0 C cl fp, PD (bk X scope s0 H0 C cl fp) T B elt (Γ' a) H (g a)) (hz : xs.length < sizeLine)
    (k : ∀ p vs H1, Nw H p → Ex T H H1 → H1 p = some (.lst vs) → AtL B H1 ((xs.filter q).map g) vs → SD X T B rest (Γ.set i (some (.r p))) H1 F)
    (hs : ∀ x, foldedSetIterable iter X.env x = pure x := by intro _; rfl) : SD X T B (.Assign [.Name y py] (.ListComp elt [⟨tg, iter, [c], 0⟩] scope pos) spos :: rest) Γ H F :=
  sd_setLc xs f g q Γ' hc hN hy hyl hsw hi ok hg hT his (fun s0 H0 C cl fp => pts_one (ptB s0 H0 C cl fp)) (fun a ha σ' H' e' s' R r => fun s0 H0 C cl fp => ht a ha s0 H0 C cl fp σ' H' e' s' R r) he hz k hs
theorem sw_trueD {kx vx : Expr} {gs : List Comprehension} {scope : Scope} {pos py : Pos} {y : Str} {l : Nat} {env : Env} (hk : env.scope.kind = .function) (hy : env.scope.names.lookup y = some .local) (hl : (py.line == pos.line) = true)
    (ha : (scope.names.any fun (n, k) => n == y && (k == .local || k == .cell)) = false) : swapsWith (.DictComp kx vx gs scope pos) (some (.Name y py)) l env = pure true := by
  have ky : env.kindOf y = some .local := hy
  have hb : env.blockKind = .function := by unfold Env.blockKind; rw [hk]; rfl
  unfold swapsWith
  simp only [hb, ky, ha, Expr.pos, hl]
  rfl
theorem ps_setDc {i : Nat} {py : Pos} {kx vx tg iter : Expr} {ifs : List Expr} {scope : Scope} {own : List (Str × Nat)} {pos spos : Pos} {wi : TI} {g : TG} {tt : TT} {tk tv : TE} (hc : X.calm = true) (hN : X.N.Nodup) (hy : X.N[i]? = some y) (hyl : X.env.scope.names.lookup y = some .local)
    (hsw : swapsWith (.DictComp kx vx [⟨tg, iter, ifs, 0⟩] scope pos) (some (.Name y py)) spos.line X.env = pure true) (hi : PI X tg iter wi) (ok : BlkOk X.N X.env.scope scope own)
    (hg : ∀ (s : Shared) (H : Hp) (C : Addr) (cl : List (Str × Addr)) (fp : List Addr), PG (X.blk s H scope (compEnvC scope cl C X.env) fp) tg g) (ht : ∀ (s : Shared) (H : Hp) (C : Addr) (cl : List (Str × Addr)) (fp : List Addr), PTs (X.blk s H scope (compEnvC scope cl C X.env) fp) ifs tt)
    (hk : ∀ (s : Shared) (H : Hp) (C : Addr) (cl : List (Str × Addr)) (fp : List Addr), PE (X.blk s H scope (compEnvC scope cl C X.env) fp) kx tk)
    (he : ∀ (s : Shared) (H : Hp) (C : Addr) (cl : List (Str × Addr)) (fp : List Addr), PE (X.blk s H scope (compEnvC scope cl C X.env) fp) vx tv) (hs : ∀ x, foldedSetIterable iter X.env x = pure x := by intro _; rfl) :
    PS X (.Assign [.Name y py] (.DictComp kx vx [⟨tg, iter, ifs, 0⟩] scope pos) spos) (tAsg (tDc wi g tt tk tv (own.map (·.2))) (gName i)) := by
  refine ⟨fun pins s σ H D I h => ?_⟩
  rw [exec_Assign_Name_used _ _ _ _ hsw]
  refine wpAny_bind (wpAny_standAt (wpAny_bind ?_))
  show wpAny _ X.A (do let _ ← comprehension (.DictComp kx vx [⟨tg, iter, ifs, 0⟩] scope pos) scope X.env (firstIterPos [⟨tg, iter, ifs, 0⟩] pos) newDict false (eval iter X.env) (some (assign (.Name y py) X.env))) _ _ s
  have h : tDc wi g tt tk tv (own.map (·.2)) σ H (fun x H1 => gName i x σ H1 D.nx) := h
  refine wpAny_bind (thn (dc_core (Qf := fun _ s' => SP X pins D .next s') hc hN I hi ok hg ht hk he hs h fun L C s' m H' I' q hn f => ?_) fun _ s' hq => wpAny_pure (wpAny_pure hq))
  show wpAny _ _ (assign (.Name y py) X.env (.ref L)) _ _ _
  refine wpAny_assign_Name (store_ok2 (v := V.ref L) I' hN hy (.inl hyl) rfl (fun s2 I2 ⟨a, sb, ha⟩ => ?_) (.inr hyl))
  obtain ⟨f0, f1, f2, f3, f4, f5⟩ := f
  have haC : C ≠ a := by
    rcases ha with z | z
    · rw [z]; exact f1
    · exact fun e => f4 y a z e.symm
  refine ⟨m, hn.sameBut sb haC, fun h3 sb3 => ?_⟩
  exact ⟨_, H', I2.turned (t' := s2.toks) (fun b o hb e => (sb3.2 b hb).trans e) f0 f1 f3 f4 f5, q⟩
theorem sd_setDc {α : Type} (xs : List α) (f : α → D) (kf : α → Int) (vf : α → D) (Γ' : α → List (Option D)) {i : Nat} {py : Pos} {tg iter kx vx : Expr} {scope : Scope} {own : List (Str × Nat)} {gt : TG} {is : List Nat} {spos : Pos} (hc : X.calm = true) (hN : X.N.Nodup) (hy : X.N[i]? = some y) (hyl : X.env.scope.names.lookup y = some .local)
    (hsw : swapsWith (.DictComp kx vx [⟨tg, iter, [], 0⟩] scope pos) (some (.Name y py)) spos.line X.env = pure true)
    (hi : ID X T B Nob tg iter Γ H (xs.map f)) (ok : BlkOk X.N X.env.scope scope own)
    (hg : ∀ (s : Shared) (H : Hp) (C : Addr) (cl : List (Str × Addr)) (fp : List Addr), PG (X.blk s H scope (compEnvC scope cl C X.env) fp) tg gt) (hT : ∀ a ∈ xs, Gd T B gt is (f a) (wipeG Γ (own.map (·.2))) (Γ' a)) (his : ∀ i ∈ is, i ∈ own.map (·.2))
    (hk : ∀ a ∈ xs, ∀ s0 H0 C cl fp, PD (bk X scope s0 H0 C cl fp) T B kx (Γ' a) H (.i (kf a))) (he : ∀ a ∈ xs, ∀ s0 H0 C cl fp, PD (bk X scope s0 H0 C cl fp) T B vx (Γ' a) H (vf a)) (hz : xs.length < sizeLine)
    (k : ∀ p kvs H1, Nw H p → Ex T H H1 → H1 p = some (.dK kvs) → KvL B H1 (foldP kf vf xs) kvs → SD X T B rest (Γ.set i (some (.r p))) H1 F)
    (hs : ∀ x, foldedSetIterable iter X.env x = pure x := by intro _; rfl) : SD X T B (.Assign [.Name y py] (.DictComp kx vx [⟨tg, iter, [], 0⟩] scope pos) spos :: rest) Γ H F := fun σ H1 x s =>
  wS_cons (ps_setDc hc hN hy hyl hsw (piS X tg iter) ok hg (fun s0 H0 C cl fp => pts_nil) peB peB hs) (dc_run x s hi hT his (fun a ha σ' H' e' s' R r => r H' (Exb.refl _)) hk he hz fun p kvs H2 hn e2 hp hv => k p kvs H2 (x.free hn) (x.trans e2) hp hv _ H2 (Exb.refl _) ((s.mono e2).set rfl))
end
/-! ### while -/
section
variable {X : Cx} {T : List (Addr × Str)} {B : Addr} {Γ : List (Option D)} {H : Hp} {S : Addr → Prop} {c : Expr} {body rest : List Stmt} {pos : Pos} {F : Ends}
/-- the state at a turn: some a of α, by M, Γs; μ falls -/
abbrev whileTo {α : Type} (T : List (Addr × Str)) (B : Addr) (S : Addr → Prop) (H : Hp) (M : α → Hp → Prop) (Γs : α → List (Option D)) (a : α) : L2.St → Hp → Prop := fun σ H' => Exb T S H H' ∧ Sl T B H' σ (Γs a) ∧ M a H'
theorem sd_while {α : Type} (M : α → Hp → Prop) (Γs : α → List (Option D)) (μ : α → Nat) (t : α → Bool) (a0 : α) (hp : PassesOwn (model X.prog X.w) X.A X.env X.xe) (hM : ∀ a H1 H2, M a H1 → Ex T H1 H2 → M a H2) (hc : ∀ a H', M a H' → Exb T S H H' → TD X T B c (Γs a) H' (t a))
    (h0 : M a0 H) (hΓ0 : (Γs a0).length = Γ.length ∧ ∀ (i : Nat) (d : D), (Γs a0)[i]? = some (some d) → Γ[i]? = some (some d))
    (turn : ∀ H2, Ex T H H2 → ∀ a H', t a = true → Exb T S H2 H' → M a H' → SD X T B body (Γs a) H' { F with nx := fun σ' H'' => ∃ a', μ a' < μ a ∧ whileTo T B S H2 M Γs a' σ' H'', ct := fun σ' H'' => ∃ a', μ a' < μ a ∧ whileTo T B S H2 M Γs a' σ' H'', bk := fun σ' H' => wS X rest F σ' H' })
    (done : ∀ a H', t a = false → Exb T S H H' → M a H' → SD X T B rest (Γs a) H' F) : SD X T B (.While c body [] pos :: rest) Γ H F := fun σ H1 e s => by
  refine wS_cons (ps_while hp (ptS X c) (psS X body)) ?_
  refine ⟨fun m σ' H' => ∃ a, m = μ a ∧ whileTo T B S H1 M Γs a σ' H', ⟨_, a0, rfl, Exb.refl _, s.weak hΓ0.1 hΓ0.2, hM _ _ _ h0 e⟩, ?_⟩
  rintro m σ' H' ⟨a, rfl, eH, sH, mH⟩
  have eHH : Exb T S H H' := (Ex.to e).trans eH
  refine hc a H' mH eHH σ' H' (Exb.refl _) sH _ fun H2 e2 => ?_
  cases ht : t a with
  | true =>
    refine ⟨fun σ'' H'' => ∃ a', μ a' < μ a ∧ whileTo T B S H1 M Γs a' σ'' H'', fun σ3 H3 ⟨a', h1, h2⟩ => ⟨_, h1, a', rfl, h2⟩, ?_⟩
    exact turn H1 e a H2 ht (eH.trans (Ex.to e2)) (hM _ _ _ mH e2) σ' H2 (Exb.refl _) (sH.mono e2)
  | false => exact done a H2 ht (eHH.trans (Ex.to e2)) (hM _ _ _ mH e2) σ' H2 (Exb.refl _) (sH.mono e2)
end
end G30
set_option Elab.async false
set_option linter.all false
set_option maxRecDepth 100000
set_option maxHeartbeats 4000000
set_option autoImplicit false
namespace G30
open PySem PySem.Spec PyProof.Rows L2 LamX StX SlX
/-! ### sorted(xs, key=lambda one: (len(one), one)), sets -/
/-- the data of a set -/
def sP (s : List Int) : PyData := .tuple (s.map .int)
def keyP (s : List Int) : PyData := .tuple [.int s.length, sP s]
theorem reads_ints {h : Heap} : ∀ {its : List Value} {ns : List Int}, Vals (ns.map V.int) its → ReadsAll h its (ns.map .int) []
  | _, [], r => by cases r; exact .nil
  | _, n :: ns, r => by
    cases r with
    | cons h1 h2 =>
      obtain ⟨t, rfl⟩ := h1
      exact .cons (as := []) (bs := []) (.int n t) (reads_ints h2)
section
variable {X : Cx} {pins : List (Addr × Obj)} {σ : L2.St} {H : Hp} {s : Shared}
theorem lam_key {A : Around} {f c' : Addr} {pm ctv : Value} {q x : Str} {ap p1 p2 p3 p4 p5 : Pos} {k : Nat} {scope : Scope} {clos : List (Str × Addr)} {u : Value} {a : Addr} {its : Array Value} {ns : List Int} (I : Inv X pins σ H s)
    (hroom : A.depth < recursionLimit) (hm : X.mg "len" = none)
    (hf : s.heap.get? f = some (PySem.W.kla_obj "<lambda>" q ⟨[], [⟨x, none, ap⟩], none, [], [], none, []⟩ (.Tuple [.Call (.Name "len" p1) [.Name x p2] [] p3, .Name x p4] k p5) scope clos pm c' ctv)) (hcd : s.heap.CodeRec (.ref c') q)
    (hk : scope.kind = .function) (hco : scope.isCoroutine = false) (hge : scope.isGenerator = false) (hcell : ∀ y ∈ scope.names, y.2 ≠ .cell) (hx : scope.names.lookup x = some .local) (hl : scope.names.lookup ("len" : Str) = some .globalImplicit) (hxd : (x == ("__debug__" : Str)) = false)
    (hb : ∀ v : Value, bindArgs (PySem.W.kla_fn "<lambda>" q ⟨[], [⟨x, none, ap⟩], none, [], [], none, []⟩ (.Tuple [.Call (.Name "len" p1) [.Name x p2] [] p3, .Name x p4] k p5) scope clos pm (.ref c') ctv) ⟨[v], []⟩ = pure [(x, v)]) (hu : u = .ref a) (hT : IsTup s.heap a its) (hr : Vals (ns.map V.int) its.toList) (hz : ns.length ≤ 1000) :
    ∀ (h : Heap) (tk : Nat), (∀ b o, s.heap.get? b = some o → h.get? b = some o) →
      wpAny (model X.prog X.w) A (call (.ref f) [u]) (PySem.W.KeyPure (keyP ns) { s with heap := h, toks := tk }) (fun _ _ => False) { s with heap := h, toks := tk } := by
  intro h tk kp
  subst hu
  have I2 : Inv X pins σ H { s with heap := h, toks := tk } := I.kept (t' := tk) kp
  have hlen : its.size = ns.length := by
    have e := hr.length
    rw [List.length_map, Array.length_toList] at e
    exact e.symm
  refine wpAny_call (PySem.W.kla_callFunE (o := PySem.W.kla_obj "<lambda>" q ⟨[], [⟨x, none, ap⟩], none, [], [], none, []⟩ (.Tuple [.Call (.Name "len" p1) [.Name x p2] [] p3, .Name x p4] k p5) scope clos pm c' ctv) hroom (kp _ _ hf) rfl hco hge rfl ?_ ?_)
  · obtain ⟨c, oc, vs, t, e1, e2, e3, e4⟩ := hcd
    exact ⟨c, oc, vs, t, e1, kp _ _ e2, e3, e4⟩
  · rw [hb]
    refine wpAny_pure (wpAny_newFunctionEnv hcell (fun y hy => by rw [List.mem_singleton.mp hy]; exact hx) (fun h₁ hns hsb => ⟨I2.nolimit.fresh _ hsb, ?_⟩) hk)
    show codeAny _ _ (.expr _ (newEnv scope h.objs.size mainGlobals clos (q ++ ".<locals>.") (some f) (.ref c') none builtinsNs)) _ { s with heap := h₁, toks := tk + 1 }
    generalize he : newEnv scope h.objs.size mainGlobals clos (q ++ ".<locals>.") (some f) (.ref c') none builtinsNs = env
    have ek : env.scope.kind = .function := by rw [← he]; exact hk
    have eL : env.locals = h.objs.size := by rw [← he]; rfl
    have eG : env.globals = mainGlobals := by rw [← he]; rfl
    have eB : env.builtins = builtinsNs := by rw [← he]; rfl
    have eN : env.scope = scope := by rw [← he]; rfl
    have kp1 : ∀ b o, h.get? b = some o → h₁.get? b = some o := fun b o e => hsb.extBut b o (Nat.ne_of_lt (Heap.lt_size e)) (Heap.get?_push_of_some _ e)
    have I3 : Inv X pins σ H { s with heap := h₁, toks := tk + 1 } := I2.kept (t' := tk + 1) kp1
    have nm : ∀ {p : Pos} {Q : Value → Shared → Prop} {E : Value → Shared → Prop} {t : Nat} {A' : Around}, Q (.ref a) { s with heap := h₁, toks := t } → wpAny (model X.prog X.w) A' (eval (.Name x p) env) Q E { s with heap := h₁, toks := t } := fun {p Q E t A'} hq =>
      wpAny_Name (wpAny_loadName_local (s := { s with heap := h₁, toks := t }) ek (show env.scope.names.lookup x = some .local by rw [eN]; exact hx) (by rw [eL]; exact hns) (show ([(x, Value.ref a)] : List (Str × Value)).reverse.lookup x = some (.ref a) by show ([(x, Value.ref a)] : List (Str × Value)).lookup x = _; rw [List.lookup_cons, show (x == x) = true from beq_self_eq_true x]) hq) hxd
    refine PySem.W.kla_codeExpr (wpAny_Tuple_spliced ?_)
    show wpAny _ _ (spliced [(false, eval (.Call (.Name "len" p1) [.Name x p2] [] p3) env), (false, eval (.Name x p4) env)]) _ _ _
    obtain ⟨mb, b1, b2⟩ := I3.mod.blt
    have tA : IsTup h₁ a its := by
      obtain ⟨o, t1, t2, t3⟩ := hT
      exact ⟨o, kp1 _ _ (kp _ _ t1), t2, t3⟩
    refine Calls.spliced_cons (wpAny_Call_Name_kw (Calls.Name_function_global ek (show env.scope.names.lookup ("len" : Str) = some .globalImplicit by rw [eN]; exact hl) (Calls.loadGlobal_builtin (by rw [eG]; exact I3.mod.glob.keeps I3.bk) hm (by rw [eB]; exact b1.keeps I3.bk) ((b2 "len" (by decide)).trans boot_len) ?_) (by decide)))
    refine PyProof.Rows.callWith_builtin1 ?_ (by rfl) (by rfl)
    show wpAny _ _ (spliced [(false, eval (.Name x p2) env)]) _ _ _
    refine Calls.spliced_cons (nm (Calls.spliced_nil ?_))
    refine len_tuple tA (by rw [hlen]; omega) ?_
    refine Calls.spliced_cons (nm ?_)
    refine Calls.spliced_nil ⟨by show 2 ≤ 2 ^ 24; decide, ?_⟩
    refine ⟨_, _, rfl, fun b o e => Heap.get?_push_of_some _ (kp1 b o e), ?_⟩
    obtain ⟨o, t1, t2, n, t3⟩ := tA
    refine Reads.tuple (vs := #[.int its.size _, .ref a]) (Heap.get?_push_size _ rfl) rfl rfl (ReadsAll.cons (as := []) (bs := []) ?_ (ReadsAll.cons (as := []) (bs := []) ?_ .nil))
    · rw [hlen]
      exact Reads.int _ _
    · exact Reads.tuple (Heap.get?_push_of_some _ t1) t2 t3 (reads_ints hr)
end
/-- the sets ss in the order of their sizes, then as tuples -/
def inOrder (ss : List (List Int)) : List (List Int) := ss.mergeSort (PySem.W.dataLe false keyP)
section
variable {X : Cx} {T : List (Addr × Str)} {B : Addr} {Γ Γ' : List (Option D)} {H H' : Hp} {d d1 d2 : D} {ds : List D} {e : Expr} {pos p : Pos} {k : Nat}
/-- how a set's value stands in the concrete heap -/
def SetAt (h : Heap) (u : Value) (s : List Int) : Prop := ∃ (a : Addr) (its : Array Value), u = .ref a ∧ IsTup h a its ∧ Vals (s.map V.int) its.toList
theorem each_sets {pins : List (Addr × Obj)} {σ : L2.St} {s : Shared} (I : Inv X pins σ H s) : ∀ {ss : List (List Int)} {vs : List V} {us : List Value}, AtL B H (ss.map sD) vs → Vals vs us → PySem.W.EachIs (SetAt s.heap) us ss
  | [], _, _, h, r => by
    have h : _ = [] := h
    rw [h] at r
    cases r
    exact .nil
  | s1 :: ss, _, _, h, r => by
    obtain ⟨v, vs, rfl, h1, h2⟩ := h
    cases r with
    | cons r1 r2 =>
      obtain ⟨a, ev, ha⟩ := At.set h1
      subst ev
      cases r1
      obtain ⟨_, its, rv, o, t1, t2, n, t3⟩ := (show ObjOk X.prog X.w H s.heap a (.tup (s1.map V.int)) from I.hok a _ ha)
      exact .cons ⟨a, its.toArray, rfl, ⟨o, t1, t2, n, t3⟩, by rw [List.toList_toArray]; exact rv⟩ (each_sets I h2 r2)
/-- values that hold the sets: the addresses are those of the list before -/
theorem each_sub {us : List Value} {vs : List V} {ss : List (List Int)} {T' : List (Addr × Str)} (hv : AtL B H (ss.map sD) vs) (r : Vals vs us) (u : Value) (s : List Int) (hu : (u, s) ∈ us.zip ss) : ∃ v, RelV v u ∧ At B H (sD s) v := by
  induction ss generalizing vs us with
  | nil => rw [List.zip_nil_right] at hu; cases hu
  | cons s1 ss ih =>
    obtain ⟨v, vs', rfl, h1, h2⟩ := hv
    cases r with
    | cons r1 r2 =>
      rw [List.zip_cons_cons] at hu
      rcases List.mem_cons.mp hu with e | e
      · injection e with e1 e2
        rw [e1, e2]
        exact ⟨v, r1, h1⟩
      · exact ih h2 r2 e
/-- a value that stands for a set -/
def SetV (B : Addr) (H : Hp) (h : Heap) (u : Value) (s : List Int) : Prop := (∃ v, RelV v u ∧ At B H (sD s) v) ∧ SetAt h u s
theorem each_both {pins : List (Addr × Obj)} {σ : L2.St} {s : Shared} (I : Inv X pins σ H s) : ∀ {ss : List (List Int)} {vs : List V} {us : List Value}, AtL B H (ss.map sD) vs → Vals vs us → PySem.W.EachIs (SetV B H s.heap) us ss
  | [], _, _, h, r => by
    have h : _ = [] := h
    rw [h] at r
    cases r
    exact .nil
  | s1 :: ss, _, _, h, r => by
    obtain ⟨v, vs, rfl, h1, h2⟩ := h
    cases r with
    | cons r1 r2 =>
      have e := each_sets (ss := [s1]) I (AtL.one h1) (.cons r1 .nil)
      cases e with
      | cons e1 _ => exact .cons ⟨⟨v, r1, h1⟩, e1⟩ (each_both I h2 r2)
theorem each_back {h : Heap} : ∀ {ss : List (List Int)} {us : List Value}, PySem.W.EachIs (SetV B H h) us ss → ∃ vs, Vals vs us ∧ AtL B H (ss.map sD) vs
  | [], _, .nil => ⟨[], .nil, rfl⟩
  | s :: ss, _, .cons ⟨⟨v, r, a⟩, _⟩ t => by
    obtain ⟨vs, r2, a2⟩ := each_back t
    exact ⟨v :: vs, .cons r r2, v, vs, rfl, a, a2⟩
theorem alike_ints : ∀ a b : List Int, PySem.W.alike (sP a) (sP b) = true
  | [], b => by cases b <;> rfl
  | _ :: _, [] => rfl
  | x :: a, y :: b => by
    have ih : PySem.W.alikeAll (a.map .int) (b.map .int) = true := alike_ints a b
    show (true && PySem.W.alikeAll (a.map .int) (b.map .int)) = true
    rw [ih]
    rfl
theorem depth_ints : ∀ a : List Int, PyData.depthAll (a.map .int) = 0
  | [] => rfl
  | x :: a => by
    show max 0 (PyData.depthAll (a.map .int)) = 0
    rw [depth_ints a]
    rfl
theorem keyP_depth (s : List Int) : (keyP s).depth ≤ 2 := by
  show max 0 (max (PyData.depthAll (s.map .int) + 1) 0) + 1 ≤ 2
  rw [depth_ints]
  decide
theorem pl_sortLam {c Pt : Addr} {x : Str} {ap p1 p2 p3 p4 p5 lpos kpos : Pos} {j : Nat} {scope : Scope} {ss : List (List Int)} (hm : X.mg "sorted" = none) (hml : X.mg "len" = none) (he : PR X T B e Γ H (ss.map sD)) (TB : TabB X.base X.mg c Pt) (hcode : X.env.code = .ref c) (hmT : (Pt, X.env.qual ++ "<lambda>") ∈ T)
    (hu : ∀ p ∈ T, p.1 = Pt → p.2 = X.env.qual ++ "<lambda>") (hr : Room (k + 2) X.A) (hz : ss.length ≤ 1000) (hs : ∀ s ∈ ss, s.length ≤ 1000)
    (hd : defaultsOf ⟨[], [⟨x, none, ap⟩], none, [], [], none, []⟩ X.env = ([], []))
    (hb : ∀ (q : Str) (clos : List (Str × Addr)) (pm cv ctv v : Value), bindArgs (PySem.W.kla_fn "<lambda>" q ⟨[], [⟨x, none, ap⟩], none, [], [], none, []⟩ (.Tuple [.Call (.Name "len" p1) [.Name x p2] [] p3, .Name x p4] j p5) scope clos pm cv ctv) ⟨[v], []⟩ = pure [(x, v)])
    (hfree : ∀ y ∈ scope.names, y.2 ≠ .free) (hk : scope.kind = .function) (hco : scope.isCoroutine = false) (hge : scope.isGenerator = false) (hcell : ∀ y ∈ scope.names, y.2 ≠ .cell) (hx : scope.names.lookup x = some .local) (hl : scope.names.lookup ("len" : Str) = some .globalImplicit) (hxd : (x == ("__debug__" : Str)) = false := by decide)
    (hg : Gl X "sorted" := by rfl) (hst : starEach [e] X.env = (false, eval e X.env) :: starEach [] X.env := by rfl)
    (he' : backTo pos (starEach [e] X.env) = (false, eval e X.env) :: backTo pos (starEach [] X.env) := by rfl) (hpl : (backTo pos (starEach [e] X.env)).any (·.1) = false := by rfl) :
    PL X T B (.Call (.Name "sorted" p) [e] [⟨some "key", .Lambda ⟨[], [⟨x, none, ap⟩], none, [], [], none, []⟩ (.Tuple [.Call (.Name "len" p1) [.Name x p2] [] p3, .Name x p4] j p5) scope lpos, kpos⟩] pos) Γ H ((inOrder ss).map sD) := fun σ H1 x1 s1 Q q => by
  intro pins s0 I0
  refine wpAny_Call_Name_kw (ld_blt I0 hg hm boot_sorted ?_ (by decide) (by decide))
  refine PyProof.Rows.callWith_kw (thn ((pa_cons (peS X e) pa_nil hst).run pos pins s0 σ H1 (fun zs H2 => ∃ p vs, zs = [.ref p] ∧ Ex T H1 H2 ∧ SqL X.K H2 p vs ∧ AtL B H2 (ss.map sD) vs) I0 (he σ H1 x1 s1 _ fun p vs H2 e2 hp hv => ⟨p, vs, rfl, e2, hp, hv⟩)) fun us s2 h2 => ?_) he' hpl
  obtain ⟨zs, H2, I2, r2, pl, vs, rfl, e2, hp, hv⟩ := h2
  obtain ⟨u, rfl, ru⟩ := vals1 r2
  cases ru
  show wpAny _ _ (evalAll [do let v ← eval (.Lambda ⟨[], [⟨x, none, ap⟩], none, [], [], none, []⟩ (.Tuple [.Call (.Name "len" p1) [.Name x p2] [] p3, .Name x p4] j p5) scope lpos) X.env; standAt pos; pure v]) _ _ s2
  refine wpAny_evalAll_cons (wpAny_bind (lam_make2 I2 TB hcode hmT hu (e2.tabs s1.tabs) hd (fun y hy e => absurd e (hfree y hy)) fun f c' pm ctv H3 s3 I3 eN T3 hf hfn hfr hco' => ?_))
  refine wpAny_bind (wpAny_standAt (wpAny_pure (wpAny_evalAll_nil ?_)))
  show wpAny _ _ (call (.builtin "sorted") [.ref pl] [((Str.ofString "key"), .ref f)]) _ _ s3
  have e3 : Ex T H2 H3 := Ex.ofN eN T3
  have hp3 := Ex.sql e3 hp
  have hv3 := hv.mono e3
  obtain ⟨its, rv, plL, hzl⟩ := I3.list hp3
  have eb := each_both I3 hv3 rv
  obtain ⟨⟨oc, cvs, ct, hoc, hdc, hvc⟩, _, _⟩ := I3.hok c' _ hco'
  refine PySem.W.sorted_key_data (b := false) (R := SetV B H3 s3.heap) (bs := ss) keyP plL.isList eb (PySem.W.AllAlike.of fun a b => ?_) (PySem.W.Sortable.tuples fun _ => ⟨_, _, rfl⟩) (Nat.le_trans hz (by decide)) (fun s hs => ?_) (PyProof.Rows.ksk_s1 _ _) (fun _ => PyProof.Rows.ksk_l1 _ _) (fun _ => PyProof.Rows.ksk_t1 _ _)
    (fun v s hv hsm h tk kp => ?_) (fun out oc2 h' tk kp hfr2 hD hlen hE => ?_)
  · show (true && (PySem.W.alike (sP a) (sP b) && true)) = true
    rw [alike_ints]
    rfl
  · have hu2 := hr.un
    have hdp : (keyP s).depth ≤ 2 := keyP_depth s
    omega
  · obtain ⟨_, a, its2, rfl, t2, r3⟩ := hv
    exact lam_key I3 (hr.in1.in1.depth) hml hf ⟨c', oc, cvs, ct, rfl, hoc, hdc, hvc⟩ hk hco hge hcell hx hl hxd (hb _ _ _ _ _) rfl t2 r3 (hs s hsm) h tk kp
  · obtain ⟨vs2, r4, a4⟩ := each_back hE
    have hn : H3 (s3.heap.objs.size + 1) = none := I3.hok.fresh (Nat.le_succ _)
    have hl2 : vs2.length ≤ sizeLine := by
      rw [r4.length, hlen]
      exact Nat.le_trans hz (by decide)
    exact ⟨.ref (s3.heap.objs.size + 1), upd H3 (s3.heap.objs.size + 1) (.lst vs2), I3.laid (t' := tk) kp (Nat.le_succ _) ⟨hl2, out, oc2, r4, hD⟩, rfl, q _ vs2 _ ((e2.trans e3).free hn) ((e2.trans e3).trans (Ex.new hn)) upd_same (a4.mono (Ex.new (T := T) hn))⟩
end
end G30
set_option Elab.async false
set_option linter.all false
set_option maxRecDepth 100000
set_option maxHeartbeats 4000000
set_option autoImplicit false
namespace G30
open PySem PySem.Spec PyProof.Rows L2 LamX StX SlX
/-! ### enumerate(tuple) -/
section
set_option maxHeartbeats 1000000
theorem meets_enumB1 {v : Value} {o : Obj} {W : Heap → Prop} (B : Begins v o W) : Meets (Builtin.«enumerate.__new__» ⟨[.type "enumerate", v], []⟩) (fun _ R s => W s.heap ∧
      R (.ok (.ret (.ref (s.heap.push o).objs.size))) { s with heap := (s.heap.push o).push { cls := .type "enumerate", data := .fields #[.none, .bool false, .ref s.heap.objs.size, rawInt 0, .none, .none] } }) := by
  refine .of_wp fun prog w A R s hw => ?_
  obtain ⟨hp, g, dr, tk, os⟩ := s
  obtain ⟨k1, k2⟩ := hw
  have hsub := sub_enumerate
  have turn1 : ∀ {A' : Around} {E' : Value → Shared → Prop} {Q' : Value → Shared → Prop}, Q' (.ref hp.objs.size) ⟨hp.push o, g, dr, tk, os⟩ → wpAny (model prog w) A' (pyIter v) Q' E' ⟨hp, g, dr, tk, os⟩ := fun z => B.iter prog w _ _ ⟨hp, g, dr, tk, os⟩ _ k1 z
  wp_walk using turn1
  refine wpAny_stack_any fun st => wpAny_pure ?_
  split
  · rename_i c _ _ _ _ _
    cases (c == Value.type "enumerate") <;> (wp_walk using turn1; exact ⟨_, rfl, k2⟩)
  · wp_walk using turn1
    exact ⟨_, rfl, k2⟩
end
section
variable {prog : Program} {w : World} {A : Around} {E : Value → Shared → Prop} {s : Shared}
theorem enumB1 {v : Value} {o : Obj} {W : Heap → Prop} {Q : Value → Shared → Prop} (B : Begins v o W) (k1 : W s.heap)
    (q : ∀ g, IsEnum g (s.heap.objs.size + 1) s.heap.objs.size 0 .none → g.get? s.heap.objs.size = some o → (∀ b u, s.heap.get? b = some u → g.get? b = some u) → Q (.ref (s.heap.objs.size + 1)) { s with heap := g }) :
    wpAny (model prog w) A (call (.type "enumerate") [v]) Q E s := by
  refine callType_new F.called_enumerate (by decide) (F.typeCall_enumerate_1 _) (F.newCall_enumerate_1 _) (fun x => F.args_object_init_2 x _) F.entry_enumerate_new (meets_enumB1 B) ⟨k1, ?_⟩
  have e1 : (s.heap.push o).objs.size = s.heap.objs.size + 1 := Heap.size_push ..
  show _ ∧ _
  rw [e1]
  have e2 : IsEnum ((s.heap.push o).push { cls := .type "enumerate", data := .fields #[.none, .bool false, .ref s.heap.objs.size, rawInt 0, .none, .none] }) (s.heap.objs.size + 1) s.heap.objs.size 0 .none := by
    have z := Heap.get?_push_size (s.heap.push o) (o := { cls := .type "enumerate", data := .fields #[.none, .bool false, .ref s.heap.objs.size, rawInt 0, .none, .none] }) rfl
    rw [e1] at z
    exact z
  exact ⟨⟨_, e2, rfl⟩, q _ e2 (Heap.get?_push_of_some _ (Heap.get?_push_size _ B.free)) fun b u z => Heap.get?_push_of_some _ (Heap.get?_push_of_some _ z)⟩
end
/-- the tuple at a, each item in a new pair -/
def IteT (K : PySem.W.Frag) (a : Addr) : It :=
  ⟨fun i H => ∃ (xs : List V) (x : V), SqT K H a xs ∧ xs[i]? = some x, fun i H v H' => ∃ T x, v = .ref T ∧ H T = none ∧ H' = upd H T (.tup [.int (i : Nat), x]) ∧ ∀ xs, SqT K H a xs → xs[i]? = some x, fun i H => ∃ xs : List V, SqT K H a xs ∧ xs.length ≤ i⟩
theorem turn_enumT {P : Program} {w : World} {K : PySem.W.Frag} {elts : List Expr} {kk : Nat} {tpos : Pos} (a e it : Addr) (hia : a ≠ it) (hea : a ≠ e) :
    Turn P w K (.Tuple elts kk tpos) (IteT K a) [e, it] e (fun i h => (∃ old, IsEnum h e it ((i : Nat) : Int) old) ∧ h.IsTupleIter it a i ∧ e ≠ it) where
  mem := List.mem_cons_self
  obj := fun i h st b hb => by
    obtain ⟨⟨old, he⟩, ⟨o, ho, hc, hd⟩, _⟩ := st
    rcases List.mem_cons.mp hb with z | z
    · rw [z]
      exact ⟨_, he, fun v q => nomatch q⟩
    · rw [List.mem_singleton.mp z]
      exact ⟨o, ho, fun v q => by rw [hd] at q; cases q⟩
  keep := fun i h h' st k => by
    obtain ⟨⟨old, he⟩, hi, hne⟩ := st
    exact ⟨⟨old, k e (by simp) _ he⟩, hi.at fun o q => k it (by simp) o q, hne⟩
  item := by
    intro X hP hw hK hc i pins s σ H E I hf st hg
    subst hP hw hK
    obtain ⟨⟨old, he⟩, hit, hne⟩ := st
    obtain ⟨xs, x, hq, hx⟩ := hg
    obtain ⟨its, rv, p, hz⟩ := I.tuple hq
    obtain ⟨u, hu, ru⟩ := rv.get hx
    have l1 : e < s.heap.objs.size := Heap.lt_size he
    have l2 : it < s.heap.objs.size := by
      obtain ⟨_, q, _⟩ := hit
      exact Heap.lt_size q
    have hil : i < its.toArray.size := by
      have := (List.getElem?_eq_some_iff.mp hu).1
      simpa using this
    refine wpAny_pyNext_enum_itemD (Draws.tuple (A := X.A.in1) (I.ok.hd hc) it a hia its.toArray) he ⟨hit, p⟩ hil hne (by simp [hne, Ne.symm hea]) fun y g tk hy ho hst hT hsz hk => ?_
    have hy : y = u := by
      have z : its[i]? = some y := by simpa using hy
      rw [hu] at z
      exact (Option.some.inj z).symm
    subst hy
    refine ⟨_, rfl, wpAny_letOwnedTupleGo_enum (s := { s with heap := g, toks := tk + 1 }) ho fun g2 he2 sb => ?_⟩
    have t2 : g2.get? s.heap.objs.size = some { cls := .type "tuple", data := .seq #[.int i tk, y] } := (sb.2 _ (Nat.ne_of_gt l1)).trans hT
    have I1 : Inv X pins σ (upd H s.heap.objs.size (.tup [.int (i : Nat), x])) { s with heap := g2, toks := tk + 1 } :=
      I.turnedNew (ch := [e, it]) (fun b ob hb q => (sb.2 b (fun z => hb (by simp [z]))).trans (hk b ob (fun z => hb (by simp [z])) (fun z => hb (by simp [z])) q)) hf (Nat.le_refl _)
        ⟨by show 2 ≤ sizeLine; decide, [.int i tk, y], .cons ⟨_, rfl⟩ (.cons ru .nil), ⟨_, t2, rfl, _, rfl⟩⟩
    refine ⟨.ref s.heap.objs.size, _, I1, rfl, ⟨_, x, rfl, I.hok.fresh (Nat.le_refl _), rfl, fun ys hy => by rw [I.tuple_inj hy hq]; exact hx⟩, ⟨⟨y, ?_⟩, hst.1.at fun o q => (sb.2 it (Ne.symm hne)).trans q, hne⟩, fun b hb => ?_⟩
    · have e1 : ((i + 1 : Nat) : Int) = (i : Int) + 1 := by omega
      rw [e1]
      exact he2
    · have hb2 : b < s.heap.objs.size := by
        rcases List.mem_cons.mp hb with z | z
        · rw [z]; exact l1
        · rw [List.mem_singleton.mp z]; exact l2
      rw [upd_ne (Nat.ne_of_lt hb2)]
      exact (hf b hb).1
  done := by
    intro X hP hw hK hc i pins s σ H E I hf st hg
    subst hP hw hK
    obtain ⟨⟨old, he⟩, hit, hne⟩ := st
    obtain ⟨xs, hq, hx⟩ := hg
    obtain ⟨its, rv, p, hz⟩ := I.tuple hq
    obtain ⟨f0, f1, f2, f3, f4, f5⟩ := hf it (by simp)
    have hl := rv.length
    have nn : its.toArray[i]? = none := by
      rw [List.getElem?_toArray]
      exact List.getElem?_eq_none (by omega)
    have Dr : Draws X.prog X.w X.A.in1 it [it, a] i (fun _ _ => False) (fun j h => j = i ∧ h.IsTupleIter it a i ∧ h.IsTuple a its.toArray) := ⟨fun _ _ st => by
        obtain ⟨_, ⟨o, ho, _⟩, _⟩ := st
        exact ⟨o, ho⟩, fun _ _ _ st k => ⟨st.1, st.2.1.at fun o z => k it (by simp) o z, st.2.2.at fun o z => k a (by simp) o z⟩, fun j s2 Q2 E2 hj st _ => absurd st.1 (Nat.ne_of_lt hj), fun s2 Q2 E2 st hE => wpAny_nextOf_tuple_end (A := X.A.in1) (I.ok.hd hc) st.2.1 st.2.2 nn hE⟩
    exact wpAny_pyNext_enum_endD Dr he ⟨rfl, hit, p⟩ fun g eb => ⟨rfl, I.turned (t' := s.toks) (fun b o hb q => eb b o hb q) f0 f1 f3 f4 f5⟩
  self := fun A i s Q E st h => by
    obtain ⟨⟨_, he⟩, _⟩ := st
    exact wpAny_pyIter_enum he h
def iEnumT (K : PySem.W.Frag) (ta : TA) : TI := fun σ H R => ta σ H fun vs H1 => ∃ a xs, vs = [.ref a] ∧ SqT K H1 a xs ∧ R (IteT K a) H1
theorem boot_enumerateT : bootBuiltins "enumerate" = some (.type "enumerate") := by decide +kernel
theorem pi_enumT {X : Cx} {e : Expr} {ta : TA} {p pos tpos : Pos} {elts : List Expr} {kk : Nat} (hg : Gl X "enumerate") (hm : X.mg "enumerate" = none) (ha : PA X [e] ta) (hs : starEach [e] X.env = [(false, eval e X.env)] := by rfl) :
    PI X (.Tuple elts kk tpos) (.Call (.Name "enumerate" p) [e] [] pos) (iEnumT X.K ta) := by
  refine ⟨fun pins s σ H R I h => ?_⟩
  refine Call_ (ld_blt I hg hm boot_enumerateT (PyProof.Rows.callWith_type1 (thn (ha.run pos pins s σ H _ I h) fun us s1 ⟨vs, H1, I1, r1, q1⟩ => ?_) hs rfl))
  obtain ⟨a, xs, rfl, hq, q⟩ := q1
  obtain ⟨u, rfl, ru⟩ := vals1 r1
  cases ru
  obtain ⟨its, rv, tp, hz⟩ := I1.tuple hq
  have la : a < s1.heap.objs.size := by
    obtain ⟨o, z, _⟩ := id tp
    exact Heap.lt_size z
  refine enumB1 (begins_tuple a its.toArray) tp fun g he hit hk => wpAny_pyIter_enum he ?_
  have I2 : Inv X pins σ H1 { s1 with heap := g } := I1.kept (t' := s1.toks) hk
  refine ⟨s1.heap.objs.size + 1, [s1.heap.objs.size + 1, s1.heap.objs.size], _, _, H1, rfl, I2, turn_enumT a (s1.heap.objs.size + 1) s1.heap.objs.size (Nat.ne_of_lt la) (Nat.ne_of_lt (Nat.lt_succ_of_lt la)), ⟨⟨.none, he⟩, ⟨_, hit, rfl, rfl⟩, Nat.succ_ne_self _⟩, fun b hb => ?_, q⟩
  have hle : s1.heap.objs.size ≤ b := by
    rcases List.mem_cons.mp hb with z | z
    · rw [z]; exact Nat.le_add_right _ _
    · rw [List.mem_singleton.mp z]; exact Nat.le_refl _
  exact I1.fpOk hle (I1.hok.fresh hle)
section
variable {X : Cx} {T : List (Addr × Str)} {B : Addr} {Γ : List (Option D)} {H : Hp} {ds : List D} {a : Expr} {S : Addr → Prop}
/-- ds with their places -/
def enD (ds : List D) : List D := (ds.zip (List.range ds.length)).map fun z => D.t [.i (z.2 : Nat), z.1]
theorem wk_enumT {K : PySem.W.Frag} {p : Addr} {vs : List V} (hp : H p = some (.tup vs)) (hv : AtL B H ds vs) : Wk T S B (IteT K p) (enD ds) H := fun H' e => by
  have hp' := e.tup hp
  have l1 := hv.len
  unfold enD
  rw [List.length_map, List.length_zip, List.length_range, Nat.min_self]
  refine ⟨fun i hi => ?_, fun i hi => ⟨vs, SqT.of hp', by omega⟩, fun i d x H'' hd hy => ?_⟩
  · have h1 : i < vs.length := by omega
    exact ⟨vs, vs[i], SqT.of hp', List.getElem?_eq_getElem h1⟩
  · obtain ⟨t, y, rfl, ht, rfl, f1⟩ := hy
    have g1 := f1 vs (SqT.of hp')
    obtain ⟨a1, b1, c1⟩ := (hv.mono e).get g1
    have hi : i < ds.length := (List.getElem?_eq_some_iff.mp b1).1
    rw [List.getElem?_map, (List.getElem?_zip_eq_some (z := (a1, i))).mpr ⟨b1, by rw [List.getElem?_range hi]⟩] at hd
    have hd : D.t [.i ((i : Nat) : Int), a1] = d := Option.some.inj hd
    rw [← hd]
    exact ⟨Ex.new ht, t, [.int ((i : Nat) : Int), y], rfl, upd_same, .int (i : Nat), [y], rfl, rfl, y, [], rfl, c1.mono (Ex.new (T := T) ht), rfl⟩
theorem id_enumT {p pos tpos : Pos} {elts : List Expr} {kk : Nat} (hm : X.mg "enumerate" = none) (ha : PD X T B a Γ H (.t ds)) (hg : Gl X "enumerate" := by rfl) (hs : starEach [a] X.env = (false, eval a X.env) :: starEach [] X.env := by rfl) (hs2 : starEach [a] X.env = [(false, eval a X.env)] := by rfl) :
    ID X T B S (.Tuple elts kk tpos) (.Call (.Name "enumerate" p) [a] [] pos) Γ H (enD ds) := fun σ H1 x s R q =>
  PI.w (pi_enumT hg hm (pa_cons (peS X a) pa_nil hs) hs2) (ha σ H1 x s _ fun v H2 e2 ⟨p1, vs, ev, hp, hv⟩ => ⟨p1, vs, by rw [ev], SqT.of hp, q _ H2 e2 (wk_enumT hp hv)⟩)
/-! tuple(range), list(range), sum of a tuple -/
theorem at_rg (a b : Int) : AtL B H (rgD a (b - a).toNat) (rgV a b) := by
  unfold rgD rgV
  have key : ∀ l : List Nat, AtL B H (l.map fun (k : Nat) => D.i (a + (k : Int))) (l.map fun i => V.int (a + (i : Nat))) := fun l => by
    induction l with
    | nil => rfl
    | cons k l ih => exact ⟨_, _, rfl, rfl, ih⟩
  exact key _
theorem pd_tupRg1 {n : Int} {p pos p2 pos2 : Pos} (hc : X.calm = true) (hm : X.mg "tuple" = none) (hr : X.mg "range" = none) (ha : PD X T B a Γ H (.i n)) (hz : 0 ≤ n ∧ n ≤ 1000) (hg : Gl X "tuple" := by rfl) (hgr : Gl X "range" := by rfl) (hs : starEach [a] X.env = (false, eval a X.env) :: starEach [] X.env := by rfl)
    (hs2 : starEach [.Call (.Name "range" p2) [a] [] pos2] X.env = (false, eval (.Call (.Name "range" p2) [a] [] pos2) X.env) :: starEach [] X.env := by rfl) : PD X T B (.Call (.Name "tuple" p) [.Call (.Name "range" p2) [a] [] pos2] [] pos) Γ H (.t (rgD 0 n.toNat)) := fun σ H1 x s Q q =>
  PE.w (pe_tupRg hc hg hm (prg_1 hgr hr (peS X a) hs) hs2) (ha σ H1 x s _ fun v H2 e2 at2 => ⟨n, at2, RgOk.of_le (by omega) (by omega) (by omega) (by omega), fun l hn => q _ _ (e2.trans (Ex.new hn)) ⟨l, _, rfl, upd_same, by
    have z := at_rg (B := B) (H := upd H2 l (.tup (rgV 0 n))) 0 n
    rw [Int.sub_zero] at z
    exact z⟩⟩)
theorem pl_listRg2 {b : Expr} {m n : Int} {p pos p2 pos2 : Pos} (hc : X.calm = true) (hm : X.mg "list" = none) (hr : X.mg "range" = none) (ha : PD X T B a Γ H (.i m)) (hb : PD X T B b Γ H (.i n)) (hz : 0 ≤ m ∧ m ≤ 1000 ∧ 0 ≤ n ∧ n ≤ 1000) (hg : Gl X "list" := by rfl) (hgr : Gl X "range" := by rfl) (hs : starEach [a, b] X.env = (false, eval a X.env) :: starEach [b] X.env := by rfl) (hsb : starEach [b] X.env = (false, eval b X.env) :: starEach [] X.env := by rfl) (hpr : (backTo pos2 (starEach [b] X.env)).any (·.1) = false := by rfl)
    (hs2 : starEach [.Call (.Name "range" p2) [a, b] [] pos2] X.env = (false, eval (.Call (.Name "range" p2) [a, b] [] pos2) X.env) :: starEach [] X.env := by rfl) : PL X T B (.Call (.Name "list" p) [.Call (.Name "range" p2) [a, b] [] pos2] [] pos) Γ H (rgD m (n - m).toNat) := fun σ H1 x s Q q =>
  PE.w (pe_listRg hc hg hm (prg_2 hgr hr (peS X a) (peS X b) hs hsb hpr) hs2) (ha σ H1 x s _ fun v H2 e2 at2 => hb σ H2 (x.trans e2) (s.mono e2) _ fun u H3 e3 at3 => ⟨m, n, at2, at3, RgOk.of_le (by omega) (by omega) (by omega) (by omega), fun l hn => q l _ _ ((e2.trans e3).free hn) ((e2.trans e3).trans (Ex.new hn)) upd_same (at_rg m n)⟩)
end
/-! ### sum of a tuple -/
theorem preSum_ints (ns : List Int) : ∀ j, preSum (fun i => ns.getD i 0) j = (ns.take j).sum
  | 0 => by rw [List.take_zero]; rfl
  | j + 1 => by
    rw [preSum, preSum_ints ns j, List.take_add_one, List.sum_append]
    congr 1
    rw [List.getD_eq_getElem?_getD]
    cases h : ns[j]? with
    | none => rfl
    | some x => show x = [x].sum; rw [List.sum_singleton]
def rSumT (K : PySem.W.Frag) : List V → Hp → VK → Prop := fun vs H Q => ∃ (a : Addr) (ns : List Int), vs = [V.ref a] ∧ SqT K H a (ns.map V.int) ∧ Q (.int ns.sum) H
theorem cr_sumT {X : Cx} (hc : X.calm = true) : CallR X (.builtin "sum") (rSumT X.K) := by
  intro pins s σ H vs us Q I r h
  obtain ⟨a, ns, rfl, hq, q⟩ := h
  obtain ⟨u, rfl, ru⟩ := vals1 r
  cases ru
  obtain ⟨its, rv, tp, hz⟩ := I.tuple hq
  have hl : its.length = ns.length := by
    rw [← rv.length, List.length_map]
  have la : a < s.heap.objs.size := by
    obtain ⟨o, z, _⟩ := id tp
    exact Heap.lt_size z
  refine call_sum_walkG (wpAny_pyIter_tuple tp ⟨s.heap.objs.size, _, _, _, _, _, fun i => ns.getD i 0, rfl, Walks.tuple (A := X.A.in1) (I.ok.hd hc) s.heap.objs.size a (Nat.ne_of_lt la) its.toArray, ⟨⟨_, Heap.get?_push_size _ rfl, rfl, rfl⟩, ?_⟩, fun b hb => ?_, fun i v hv => ?_, fun g tk t k => ?_⟩)
  · obtain ⟨o, z1, z2⟩ := tp
    exact ⟨o, Heap.get?_push_of_some _ z1, z2⟩
  · rw [Heap.size_push]
    rcases List.mem_cons.mp hb with z | z
    · rw [z]; exact Nat.lt_succ_self _
    · rw [List.mem_singleton.mp z]; exact Nat.lt_succ_of_lt la
  · have hv : its[i]? = some v := by simpa using hv
    have hi : i < ns.length := by
      have := (List.getElem?_eq_some_iff.mp hv).1
      omega
    obtain ⟨u, hu, ru⟩ := rv.get (i := i) (x := .int ns[i]) (by rw [List.getElem?_map, List.getElem?_eq_getElem hi]; rfl)
    rw [hv] at hu
    cases hu
    obtain ⟨t, rfl⟩ := ru
    exact ⟨t, by show Value.int ns[i] t = Value.int (ns.getD i 0) t; rw [List.getD_eq_getElem?_getD, List.getElem?_eq_getElem hi]; rfl⟩
  · have e1 : preSum (fun i => ns.getD i 0) its.toArray.size = ns.sum := by
      rw [preSum_ints, List.size_toArray, hl, List.take_length]
    rw [e1]
    exact ⟨.int ns.sum, H, I.kept (t' := tk) fun b o z => k b o (fun y => Nat.lt_irrefl _ (by have := Heap.lt_size z; rw [List.mem_singleton.mp y] at this; exact this)) (Heap.get?_push_of_some _ z), ⟨_, rfl⟩, q⟩
section
variable {X : Cx} {T : List (Addr × Str)} {B : Addr} {Γ : List (Option D)} {H : Hp} {ds : List D} {d d1 : D} {a e : Expr} {F : Ends} {rest : List Stmt} {pos p : Pos} {x : Str}
theorem pd_sumT {ns : List Int} (hc : X.calm = true) (hm : X.mg "sum" = none) (ha : PD X T B e Γ H (sD ns)) (hg : Gl X "sum" := by rfl) (he : starEach [e] X.env = (false, eval e X.env) :: starEach [] X.env := by rfl) (hpl : (backTo pos (starEach [] X.env)).any (·.1) = false := by rfl) :
    PD X T B (.Call (.Name "sum" p) [e] [] pos) Γ H (.i ns.sum) := pd_blt (cr_sumT hc) hm (by decide +kernel) (ad_cons ha ad_nil he) (fun vs H1 _ h Q k => by
      obtain ⟨v, rfl, hv⟩ := AtL.single h
      obtain ⟨q, rfl, hq⟩ := At.set hv
      exact ⟨q, ns, rfl, SqT.of hq, k _ H1 (Exb.refl _) rfl⟩) hg (by decide) (by decide) he hpl
/-! a list's item is changed -/
theorem AtL.setI : ∀ {ds : List D} {vs : List V} (j : Nat) {d : D} {v : V}, AtL B H ds vs → At B H d v → AtL B H (ds.set j d) (vs.set j v)
  | [], _, j, _, _, h, _ => by
    have h : _ = [] := h
    rw [h]
    rfl
  | _ :: ds, _, 0, d, v, h, g => by
    obtain ⟨w, r, rfl, _, h3⟩ := h
    exact ⟨v, r, rfl, g, h3⟩
  | _ :: ds, _, j + 1, d, v, h, g => by
    obtain ⟨w, r, rfl, h2, h3⟩ := h
    exact ⟨w, r.set j v, rfl, h2, AtL.setI j h3 g⟩
theorem atI_ints {ns : List Int} {z m : Int} {j : Nat} (h1 : ixN ns.length z = some j) (h2 : ns[j]? = some m) : atI (ns.map V.int) z = some (.int m) := by
  unfold atI
  rw [List.length_map, h1]
  show (ns.map V.int)[j]? = some (.int m)
  rw [List.getElem?_map, h2]
  rfl
/-- xs[a] += e, ints -/
theorem sd_augI (i : Nat) {p2 tp : Pos} {q : Addr} {ns : List Int} {z m n : Int} {j : Nat} (hd : H q = some (.lst (ns.map V.int))) (ha : PD X T B a Γ H (.i z)) (h : PD X T B e Γ H (.i n)) (h1 : ixN ns.length z = some j) (h2 : ns[j]? = some m)
    (k : ∀ H1, Exb T (fun b => b = q) H H1 → H1 q = some (.lst ((ns.set j (m + n)).map V.int)) → SD X T B rest Γ H1 F) (hN : X.N[i]? = some x := by rfl) (hΓ : Γ[i]? = some (some (.r q)) := by rfl) (hv : Vis X.env.scope x := by first | exact .inl rfl | exact .inr (.inl rfl) | exact .inr (.inr rfl)) (hdb : (x == ("__debug__" : Str)) = false := by decide) (hcd : (x == ("__classdict__" : Str)) = false := by decide)
    (hs : ∀ ov iv new, augStore a ov iv new = (do holding [new, ov, iv] (setItem ov iv new); release [new, ov, iv] []; pure .next) := by intros; rfl) :
    SD X T B (.AugAssign (.Subscript (.Name x p2) a tp) .Add e pos :: rest) Γ H F := fun σ H1 x1 s =>
  wS_cons (ps_augS (pe_var hN hv hdb hcd) (peS X a) gl_list (peS X e) ip_add set_list hs) ⟨_, dkv i s hΓ, ha σ H1 x1 s _ fun v H2 e2 at2 => by
    have at2 : v = .int z := at2
    subst at2
    have d1 := Ex.lst e2 (Ex.lst x1 hd)
    refine ⟨q, _, z, .int m, rfl, rfl, SqL.of d1, atI_ints h1 h2, h σ H2 (x1.trans e2) (s.mono e2) _ fun u H3 e3 at3 => ?_⟩
    have at3 : u = .int n := at3
    subst at3
    have d3 := Ex.lst e3 d1
    have em : Exb T (fun b => b = q) H3 (upd H3 q (.lst ((ns.map V.int).set j (.int (m + n))))) := (Exb.refl H3).mut rfl d3 rfl (fun ps z => by cases z)
    refine ⟨m, n, rfl, rfl, q, _, z, j, rfl, rfl, d3, by rw [List.length_map]; exact h1, ?_⟩
    refine k _ ((Ex.to ((x1.trans e2).trans e3)).trans em) ?_ σ _ (Exb.refl _) (s.mono ((Ex.to (e2.trans e3)).trans em))
    rw [upd_same, List.map_set]⟩
/-- xs[a] = e, ints -/
theorem sd_setI (i : Nat) {p2 tp : Pos} {q : Addr} {ns : List Int} {z n : Int} {j : Nat} (hd : H q = some (.lst (ns.map V.int))) (ha : PD X T B a Γ H (.i z)) (h : PD X T B e Γ H (.i n)) (h1 : ixN ns.length z = some j)
    (k : ∀ H1, Exb T (fun b => b = q) H H1 → H1 q = some (.lst ((ns.set j n).map V.int)) → SD X T B rest Γ H1 F) (hN : X.N[i]? = some x := by rfl) (hΓ : Γ[i]? = some (some (.r q)) := by rfl) (hv : Vis X.env.scope x := by first | exact .inl rfl | exact .inr (.inl rfl) | exact .inr (.inr rfl)) (hdb : (x == ("__debug__" : Str)) = false := by decide) (hcd : (x == ("__classdict__" : Str)) = false := by decide)
    (hst : ∀ v, assign (.Subscript (.Name x p2) a tp) X.env v = (do
      let ov ← holding [v] (eval (.Name x p2) X.env)
      let iv ← holding [v, ov] (eval a X.env)
      standAt tp
      holding [v, ov, iv] (setItem ov iv v)
      release [v, ov, iv] []) := by intro _; rfl) (hs : swapsWithSole [.Subscript (.Name x p2) a tp] e pos.line X.env = pure false := by rfl) (hw : swappedStores [.Subscript (.Name x p2) a tp] e X.env = pure none := by rfl) :
    SD X T B (.Assign [.Subscript (.Name x p2) a tp] e pos :: rest) Γ H F := fun σ H1 x1 s =>
  wS_cons (ps_asg (peS X e) (pg_sub (pe_var hN hv hdb hcd) (peS X a) set_list hst) hs hw) (h σ H1 x1 s _ fun u H2 e2 at2 => ⟨_, dkv i (s.mono e2) hΓ, ha σ H2 (x1.trans e2) (s.mono e2) _ fun v H3 e3 at3 => by
    have at2 : u = .int n := at2
    have at3 : v = .int z := at3
    subst at2 at3
    have d3 := Ex.lst e3 (Ex.lst e2 (Ex.lst x1 hd))
    have em : Exb T (fun b => b = q) H3 (upd H3 q (.lst ((ns.map V.int).set j (.int n)))) := (Exb.refl H3).mut rfl d3 rfl (fun ps z => by cases z)
    refine ⟨q, _, z, j, rfl, rfl, d3, by rw [List.length_map]; exact h1, ?_⟩
    refine k _ ((Ex.to ((x1.trans e2).trans e3)).trans em) ?_ σ _ (Exb.refl _) (s.mono ((Ex.to (e2.trans e3)).trans em))
    rw [upd_same, List.map_set]⟩)
end
end G30
set_option Elab.async false
set_option linter.all false
set_option maxRecDepth 100000
set_option maxHeartbeats 4000000
set_option autoImplicit false
namespace G30
open PySem PySem.Spec PyProof.Rows L2 LamX StX SlX
section
variable {P : Program} {w : World} {K : PySem.W.Frag} {mg : Str → Option Value} {base : Heap} {T : List (Addr × Str)}
def R_is_integer (ds : List D) (d : D) : Prop := ∃ n lo hi : Int, ds = [.i n, .i lo, .i hi] ∧ d = .b (decide (lo ≤ n) && decide (n ≤ hi))
theorem has_is_integer (Z : Zk K mg) : Has P w K mg base 1 "is_integer" (spD T (He.ga K "Book") R_is_integer) := by
  have hN : (["thing", "low", "high"] : List Str).Nodup := by decide +kernel
  refine has_D (N := ["thing", "low", "high"]) (ps := ["thing", "low", "high"]) (d := dF 14 "is_integer" "is_integer") (Z.d 0 rfl rfl rfl) (Z.glo 0 rfl) ⟨rfl, rfl, rfl, hN, rfl, by decide +kernel, by decide +kernel⟩ ?hlen (fun _ _ _ _ _ _ us hl => match us, hl with | [_, _, _], _ => rfl) (fun f cd A outer s0 H E hr0 ds r hR Q q => ?body)
  case hlen => exact fun ds d ⟨_, _, _, h, _⟩ => by rw [h]; rfl
  obtain ⟨n, lo, hi, rfl, rfl⟩ := hR
  refine sd_ret ((pd_and (pd_isi (r := true) Z.isinstance Z.int_ boot_int (pdv 0) rfl (by decide +kernel)) (fun _ => (pd_and (pd_not (pd_isi (r := false) Z.isinstance Z.bool_ boot_bool (pdv 0) rfl (by decide +kernel))) (fun _ => (pd_one (pd_leleI (pdv 1) (pdv 0) (pdv 2)))))))) ?_
  exact q
/-- a set of marks below m: ascending -/
structure OkS (m : Nat) (s : List Int) : Prop where
  asc : s.Pairwise (· < ·)
  lo : ∀ x ∈ s, 0 ≤ x
  hi : ∀ x ∈ s, x < m
theorem asc_len : ∀ (s : List Int) (a b : Int), s.Pairwise (· < ·) → (∀ x ∈ s, a ≤ x ∧ x < b) → (s.length : Int) ≤ max (b - a) 0
  | [], a, b, _, _ => by simp; omega
  | x :: r, a, b, h, k => by
    have h1 := List.pairwise_cons.mp h
    have hx := k x List.mem_cons_self
    have ih := asc_len r (x + 1) b h1.2 fun y hy => ⟨by have := h1.1 y hy; omega, (k y (List.mem_cons_of_mem _ hy)).2⟩
    rw [List.length_cons]
    omega
theorem OkS.len {m : Nat} {s : List Int} (h : OkS m s) : s.length ≤ m := by
  have := asc_len s 0 m h.asc fun x hx => ⟨h.lo x hx, h.hi x hx⟩
  omega
theorem OkS.sz {m : Nat} {s : List Int} (h : OkS m s) (hm : m ≤ 5) : s.length < sizeLine := by
  have := h.len
  show s.length < 2 ^ 24
  omega
theorem zip_asc : ∀ (s : List Int), s.Pairwise (· < ·) → (s.zip (s.drop 1)).all (fun z => decide (z.1 < z.2)) = true
  | [], _ => rfl
  | [_], _ => rfl
  | a :: b :: r, h => by
    have h1 := List.pairwise_cons.mp h
    have ih := zip_asc (b :: r) h1.2
    show (decide (a < b) && ((b :: r).zip ((b :: r).drop 1)).all fun z => decide (z.1 < z.2)) = true
    rw [ih, decide_eq_true (h1.1 b List.mem_cons_self)]
    rfl
def R_is_set (ds : List D) (d : D) : Prop := ∃ (m : Nat) (s : List Int), m ≤ 5 ∧ OkS m s ∧ ds = [.i m, sD s] ∧ d = .b true
theorem zip_D (s : List Int) : (((s.map D.i).zip (cutD (s.map D.i) (some 1) none)).map fun z => D.t [z.1, z.2]) = (s.zip (s.drop 1)).map fun z => D.t [.i z.1, .i z.2] := by
  have e : cutD (s.map D.i) (some 1) none = (s.drop 1).map D.i := by
    unfold cutD
    rw [HT.sIx_none]
    have e2 : HT.sIx (s.map D.i).length 0 (some 1) = min 1 (s.map D.i).length := HT.sIx_nat _ _ 1
    rw [e2]
    cases s with
    | nil => rfl
    | cons a r =>
      show List.take ((r.map D.i).length + 1 - min 1 ((r.map D.i).length + 1)) (List.drop (min 1 ((r.map D.i).length + 1)) (D.i a :: r.map D.i)) = r.map D.i
      rw [show min 1 ((r.map D.i).length + 1) = 1 by omega]
      exact List.take_of_length_le (by show (r.map D.i).length ≤ _; omega)
  rw [e, List.zip_map, List.map_map]
  rfl
theorem has_is_set (Z : Zk K mg) : Has P w K mg base 2 "is_set" (spD T (He.ga K "Book") R_is_set) := by
  have hN : (["marks", "thing", "mark", "one", "other"] : List Str).Nodup := by decide +kernel
  refine has_D (N := ["marks", "thing", "mark", "one", "other"]) (ps := ["marks", "thing"]) (d := dF 15 "is_set" "is_set") (Z.d 1 rfl rfl rfl) (Z.glo 1 rfl) ⟨rfl, rfl, rfl, hN, rfl, by decide +kernel, by decide +kernel⟩ ?hlen (fun _ _ _ _ _ _ us hl => match us, hl with | [_, _], _ => rfl) (fun f cd A outer s0 H E hr0 ds r hR Q q => ?body)
  case hlen => exact fun ds d ⟨_, _, _, _, h, _⟩ => by rw [h]; rfl
  obtain ⟨m, s, hm, hs, rfl, rfl⟩ := hR
  refine sd_skip (TD.is ((WD.t (wd_or (td_not (td_val (pd_isi (r := true) Z.isinstance Z.tuple_ boot_tuple (pdv 1) rfl (by decide +kernel)))) (fun _ => (wd_or1 (td_not (td_val (pd_allM rfl Z.all (PL.r (pl_lc (own := [("mark", 2)]) (is := [2]) _ _ _ _ rfl hN (id_tup (pdv 1)) (blk_ok (by kernel_rfl)) (fun _ _ _ _ _ => pg_name (i := 2) hN rfl (by first | exact .inl rfl | exact .inr rfl)) (fun a ha => (gd_name)) (by decide) (fun a ha s0 H0 C cl fp => (pd_call (has_is_integer Z) hr0 (ad_cons (pdv 2) (ad_cons pd_int (ad_cons (pd_sub (pdv 0) pd_int) ad_nil))) ⟨_, _, _, rfl, rfl⟩)) ?_)))))))))) ?_) ?_
  · exact hs.sz hm
  · show (!true || !s.all fun a => decide ((0 : Int) ≤ a) && decide (a ≤ (m : Int) - 1)) = false
    rw [List.all_eq_true.mpr fun x hx => by rw [decide_eq_true (hs.lo x hx), decide_eq_true (by have := hs.hi x hx; omega)]; rfl]
    rfl
  · refine sd_ret (PD.is ((pd_allM rfl Z.all (PL.r (pl_lc (own := [("one", 3), ("other", 4)]) (is := [3, 4]) _ _ _ _ rfl hN (ID.is (id_zipT Z.zip (pdv 1) (pd_slT (pdv 1) (od_some pd_int) od_none)) (zip_D _)) (blk_ok (by kernel_rfl)) (fun _ _ _ _ _ => pg_tup rfl (pgs_cons (pg_name (i := 3) hN rfl (by first | exact .inl rfl | exact .inr rfl)) (pgs_cons (pg_name (i := 4) hN rfl (by first | exact .inl rfl | exact .inr rfl)) pgs_nil))) (fun a ha => (gd_tup2)) (by decide) (fun a ha s0 H0 C cl fp => (pd_lt (pdv 3) (pdv 4))) ?_)))) ?_) q
    · have h1 := hs.sz hm
      rw [List.length_zip]
      omega
    · exact congrArg D.b (zip_asc s hs.asc)
abbrev ruD (r : List Int × List Int) : D := .t [sD r.1, sD r.2]
def R_is_rule (ds : List D) (d : D) : Prop := ∃ (m : Nat) (r : List Int × List Int), m ≤ 5 ∧ OkS m r.1 ∧ OkS m r.2 ∧ ds = [.i m, ruD r] ∧ d = .b true
theorem has_is_rule (Z : Zk K mg) : Has P w K mg base 3 "is_rule" (spD T (He.ga K "Book") R_is_rule) := by
  have hN : (["marks", "thing", "part"] : List Str).Nodup := by decide +kernel
  refine has_D (N := ["marks", "thing", "part"]) (ps := ["marks", "thing"]) (d := dF 16 "is_rule" "is_rule") (Z.d 2 rfl rfl rfl) (Z.glo 2 rfl) ⟨rfl, rfl, rfl, hN, rfl, by decide +kernel, by decide +kernel⟩ ?hlen (fun _ _ _ _ _ _ us hl => match us, hl with | [_, _], _ => rfl) (fun f cd A outer s0 H E hr0 ds r hR Q q => ?body)
  case hlen => exact fun ds d ⟨_, _, _, _, _, h, _⟩ => by rw [h]; rfl
  obtain ⟨m, r, hm, h1, h2, rfl, rfl⟩ := hR
  refine sd_ret (PD.is ((pd_and (pd_isi (r := true) Z.isinstance Z.tuple_ boot_tuple (pdv 1) rfl (by decide +kernel)) (fun _ => (pd_and (pd_eqI (pd_lenT Z.len (pdv 1)) pd_int) (fun _ => (pd_one (pd_allM rfl Z.all (PL.r (pl_lc (own := [("part", 2)]) (is := [2]) ([r.1, r.2]) (sD) _ _ rfl hN (ID.is (id_tup (pdv 1)) (rfl : [sD r.1, sD r.2] = [r.1, r.2].map sD)) (blk_ok (by kernel_rfl)) (fun _ _ _ _ _ => pg_name (i := 2) hN rfl (by first | exact .inl rfl | exact .inr rfl)) (fun a ha => (gd_name)) (by decide) (fun a ha s0 H0 C cl fp => (pd_call (has_is_set Z) hr0 (ad_cons (pdv 0) (ad_cons (pdv 2) ad_nil)) ⟨_, _, hm, ?_, rfl, rfl⟩)) ?_))))))))) ?_) q
  · rcases List.mem_cons.mp ha with e | e
    · rw [e]; exact h1
    · rw [List.mem_singleton.mp e]; exact h2
  · show 2 < 2 ^ 24; decide
  · rfl
def within (s t : List Int) : Bool := s.all fun x => decide (x ∈ t)
def R_is_within (ds : List D) (d : D) : Prop := ∃ s t : List Int, s.length < sizeLine ∧ ds = [sD s, sD t] ∧ d = .b (within s t)
theorem has_is_within (Z : Zk K mg) : Has P w K mg base 1 "is_within" (spD T (He.ga K "Book") R_is_within) := by
  have hN : (["one", "other", "mark"] : List Str).Nodup := by decide +kernel
  refine has_D (N := ["one", "other", "mark"]) (ps := ["one", "other"]) (d := dF 17 "is_within" "is_within") (Z.d 3 rfl rfl rfl) (Z.glo 3 rfl) ⟨rfl, rfl, rfl, hN, rfl, by decide +kernel, by decide +kernel⟩ ?hlen (fun _ _ _ _ _ _ us hl => match us, hl with | [_, _], _ => rfl) (fun f cd A outer s0 H E hr0 ds r hR Q q => ?body)
  case hlen => exact fun ds d ⟨_, _, _, h, _⟩ => by rw [h]; rfl
  obtain ⟨s, t, hz, rfl, rfl⟩ := hR
  refine sd_ret ((pd_allM rfl Z.all (PL.r (pl_lc (own := [("mark", 2)]) (is := [2]) _ _ _ _ rfl hN (id_tup (pdv 0)) (blk_ok (by kernel_rfl)) (fun _ _ _ _ _ => pg_name (i := 2) hN rfl (by first | exact .inl rfl | exact .inr rfl)) (fun a ha => (gd_name)) (by decide) (fun a ha s0 H0 C cl fp => (pd_in (pdv 2) (pdv 1))) ?_)))) q
  exact hz
theorem has__law_within (Z : Zk K mg) : Has P w K mg base 1 "_law_within" (spD T (He.ga K "Book") R_is_within) := by
  have hN : (["_law_one", "_law_other", "_law_mark"] : List Str).Nodup := by decide +kernel
  refine has_D (N := ["_law_one", "_law_other", "_law_mark"]) (ps := ["_law_one", "_law_other"]) (d := dF 81 "_law_within" "_law_within") (Z.d 61 rfl rfl rfl) (Z.glo 52 rfl) ⟨rfl, rfl, rfl, hN, rfl, by decide +kernel, by decide +kernel⟩ ?hlen (fun _ _ _ _ _ _ us hl => match us, hl with | [_, _], _ => rfl) (fun f cd A outer s0 H E hr0 ds r hR Q q => ?body)
  case hlen => exact fun ds d ⟨_, _, _, h, _⟩ => by rw [h]; rfl
  obtain ⟨s, t, hz, rfl, rfl⟩ := hR
  refine sd_ret ((pd_allM rfl Z.all (PL.r (pl_lc (own := [("_law_mark", 2)]) (is := [2]) _ _ _ _ rfl hN (id_tup (pdv 0)) (blk_ok (by kernel_rfl)) (fun _ _ _ _ _ => pg_name (i := 2) hN rfl (by first | exact .inl rfl | exact .inr rfl)) (fun a ha => (gd_name)) (by decide) (fun a ha s0 H0 C cl fp => (pd_in (pdv 2) (pdv 1))) ?_)))) q
  exact hz
abbrev Rules := List (List Int × List Int)
abbrev rsD (rs : Rules) : D := .t (rs.map ruD)
structure OkR (m : Nat) (rs : Rules) : Prop where
  m0 : 0 < m
  m5 : m ≤ 5
  len : rs.length ≤ 16
  ok : ∀ r ∈ rs, OkS m r.1 ∧ OkS m r.2
abbrev bkD (m : Nat) (rs : Rules) : D := .bk m (rsD rs)
def isShut (rs : Rules) (s : List Int) : Bool := (rs.filter fun r => within r.1 s).all fun r => within r.2 s
def R_is_shut (ds : List D) (d : D) : Prop := ∃ (m : Nat) (rs : Rules) (s : List Int), OkR m rs ∧ ds = [rsD rs, sD s] ∧ d = .b (isShut rs s)
theorem has_is_shut (Z : Zk K mg) : Has P w K mg base 2 "is_shut" (spD T (He.ga K "Book") R_is_shut) := by
  have hN : (["rules", "thing", "premise", "conclusion"] : List Str).Nodup := by decide +kernel
  refine has_D (N := ["rules", "thing", "premise", "conclusion"]) (ps := ["rules", "thing"]) (d := dF 22 "is_shut" "is_shut") (Z.d 8 rfl rfl rfl) (Z.glo 8 rfl) ⟨rfl, rfl, rfl, hN, rfl, by decide +kernel, by decide +kernel⟩ ?hlen (fun _ _ _ _ _ _ us hl => match us, hl with | [_, _], _ => rfl) (fun f cd A outer s0 H E hr0 ds r hR Q q => ?body)
  case hlen => exact fun ds d ⟨_, _, _, _, h, _⟩ => by rw [h]; rfl
  obtain ⟨m, rs, s, ho, rfl, rfl⟩ := hR
  refine sd_ret ((pd_allM rfl Z.all (PL.r (pl_lcI (own := [("premise", 2), ("conclusion", 3)]) (is := [2, 3]) (rs) (ruD) _ _ _ rfl hN (id_tup (pdv 0)) (blk_ok (by kernel_rfl)) (fun _ _ _ _ _ => pg_tup rfl (pgs_cons (pg_name (i := 2) hN rfl (by first | exact .inl rfl | exact .inr rfl)) (pgs_cons (pg_name (i := 3) hN rfl (by first | exact .inl rfl | exact .inr rfl)) pgs_nil))) (fun a ha => (gd_tup2)) (by decide) (fun a ha s0 H0 C cl fp => (td_val (pd_call (has_is_within Z) hr0 (ad_cons (pdv 2) (ad_cons (pdv 1) ad_nil)) ⟨_, _, ?_, rfl, rfl⟩))) (fun a ha hp s0 H0 C cl fp => (pd_call (has_is_within Z) hr0 (ad_cons (pdv 3) (ad_cons (pdv 1) ad_nil)) ⟨_, _, ?_, rfl, rfl⟩)) ?_)))) q
  · exact (ho.ok a ha).1.sz ho.m5
  · exact (ho.ok a ha).2.sz ho.m5
  · have := ho.len
    show rs.length < 2 ^ 24
    omega
/-- the marks below m -/
def mks (m : Nat) : List Int := (List.range m).map fun (k : Nat) => (k : Int)
theorem mem_mks {m : Nat} {x : Int} : x ∈ mks m ↔ 0 ≤ x ∧ x < m := by
  unfold mks
  rw [List.mem_map]
  constructor
  · rintro ⟨k, hk, rfl⟩
    have := List.mem_range.mp hk
    omega
  · intro h
    exact ⟨x.toNat, List.mem_range.mpr (by omega), by omega⟩
theorem mks_asc (m : Nat) : (mks m).Pairwise (· < ·) := by
  unfold mks
  rw [List.pairwise_map]
  exact List.pairwise_lt_range.imp fun h => by omega
theorem mks_ok (m : Nat) : OkS m (mks m) := ⟨mks_asc m, fun x h => (mem_mks.mp h).1, fun x h => (mem_mks.mp h).2⟩
theorem rgD_mks (m : Nat) : rgD 0 m = (mks m).map D.i := by
  unfold rgD mks
  rw [List.map_map]
  exact List.map_congr_left fun k _ => by show D.i (0 + (k : Int)) = D.i (k : Int); rw [Int.zero_add]
end
end G30
set_option Elab.async false
set_option linter.all false
set_option maxRecDepth 100000
set_option maxHeartbeats 4000000
set_option autoImplicit false
namespace G30
open PySem PySem.Spec PyProof.Rows L2 LamX StX SlX
section
variable {P : Program} {w : World} {K : PySem.W.Frag} {mg : Str → Option Value} {base : Heap} {T : List (Addr × Str)}
/-- the marks of l, ascending -/
def nrm (m : Nat) (l : List Int) : List Int := (mks m).filter fun x => decide (x ∈ l)
theorem nrm_ok (m : Nat) (l : List Int) : OkS m (nrm m l) := ⟨(mks_asc m).filter _, fun x h => (mem_mks.mp (List.mem_filter.mp h).1).1, fun x h => (mem_mks.mp (List.mem_filter.mp h).1).2⟩
theorem mem_nrm {m : Nat} {l : List Int} (h : ∀ x ∈ l, 0 ≤ x ∧ x < m) {x : Int} : x ∈ nrm m l ↔ x ∈ l := by
  unfold nrm
  rw [List.mem_filter, decide_eq_true_eq]
  exact ⟨fun z => z.2, fun z => ⟨mem_mks.mpr (h x z), z⟩⟩
def R_joined (ds : List D) (d : D) : Prop := ∃ (m : Nat) (s t : List Int), (∀ x ∈ s ++ t, 0 ≤ x ∧ x < m) ∧ (s ++ t).length < 64 ∧ ds = [sD s, sD t] ∧ d = sD (nrm m (s ++ t))
theorem star2 (s t : List Int) : s.map D.i ++ (t.map D.i ++ []) = (s ++ t).map D.i := by rw [List.append_nil, List.map_append]
theorem has_joined (Z : Zk K mg) : Has P w K mg base 1 "joined" (spD T (He.ga K "Book") R_joined) := by
  have hN : (["one", "other", "mark"] : List Str).Nodup := by decide +kernel
  refine has_D (N := ["one", "other", "mark"]) (ps := ["one", "other"]) (d := dF 18 "joined" "joined") (Z.d 4 rfl rfl rfl) (Z.glo 4 rfl) ⟨rfl, rfl, rfl, hN, rfl, by decide +kernel, by decide +kernel⟩ ?hlen (fun _ _ _ _ _ _ us hl => match us, hl with | [_, _], _ => rfl) (fun f cd A outer s0 H E hr0 ds r hR Q q => ?body)
  case hlen => exact fun ds d ⟨_, _, _, _, _, h, _⟩ => by rw [h]; rfl
  obtain ⟨m, s, t, hm, hz, rfl, rfl⟩ := hR
  have hk := foldP_keys (fun a : Int => a) (fun _ => D.b true) (s ++ t)
  refine sd_ret (pd_tupleL Z.tuple_ (PL.r (pl_sortedN (ks := foldP (fun a : Int => a) (fun _ => D.b true) (s ++ t)) rfl Z.sorted (pn_dc (own := [("mark", 2)]) (is := [2]) (s ++ t) (D.i) _ _ _ rfl hN (ID.is (id_tup (pd_tup (ad_starT (pdv 0) (ad_starT (pdv 1) ad_nil)) ?_)) (star2 s t)) (blk_ok (by kernel_rfl)) (fun _ _ _ _ _ => pg_name (i := 2) hN rfl (by first | exact .inl rfl | exact .inr rfl)) (fun a ha => gd_name) (by decide) (fun a ha s0 H0 C cl fp => (pdv 2)) (fun a ha s0 H0 C cl fp => pd_bl) ?_) ?_ ?_ (nrm_ok m (s ++ t)).asc ?_))) q
  · rw [star2, List.length_map]
    show (s ++ t).length ≤ 2 ^ 24
    omega
  · show (s ++ t).length < 2 ^ 24
    omega
  · have := hk.2.2
    omega
  · exact hk.2.1
  · intro x
    rw [mem_nrm hm, hk.1, List.map_id']
/-! a promise that reads the heap -/
def spDH (T : List (Addr × Str)) (B : Addr) (R : Hp → List D → D → Prop) : Sp := fun vs H Q _ => ∃ ds d, AtL B H ds vs ∧ Tabs T H ∧ R H ds d ∧ ∀ v H', Ex T H H' → At B H' d v → Q v H'
theorem has_DH {x : Str} {N ps : List Str} {k : Nat} {B : Addr} {d : He.DefD} {R : Hp → List D → D → Prop} (D0 : DefOk K mg x d) (g : mg x = some (.ref (He.fAd K d.at_))) (S : FnScope N ps d.scope) (hlen : ∀ H ds d, R H ds d → ds.length = ps.length)
    (hb : ∀ (kV doc pm : Value) (an : Option Addr) (cdv ct : Value) (us : List Value), us.length = ps.length → bindArgs (PySem.W.fnOf d.name d.qual d.params d.body d.scope .none kV doc pm an cdv ct) ⟨us, []⟩ = pure (ps.zip us))
    (body : ∀ f cd A outer s H E, Room k (bx P w K mg base N d f cd A outer s H E).A → ∀ ds r, R H ds r → ∀ Q : VK, (∀ v H', Ex T H H' → At B H' r v → Q v H') → SD (bx P w K mg base N d f cd A outer s H E) T B d.body (startG N ds) H { nx := fun _ H' => Q .non H', rt := Q }) :
    Has P w K mg base (k + 1) x (spDH T B R) := by
  obtain ⟨h1, h2⟩ := fnr_of (N := N) (ps := ps) (k := k) (P := P) (w := w) (base := base) (sp := spDH T B R) D0 S (fun vs H Q E ⟨ds, r, a, t, hR, _⟩ => by rw [a.len]; exact hlen H ds r hR) hb fun f cd A outer s H E hr vs Q ⟨ds, r, a, t, hR, q⟩ => body f cd A outer s H E hr ds r hR Q q _ H (Exb.refl _) (sl_start t a)
  exact ⟨_, g, h2, h1⟩
theorem pd_callH {X : Cx} {B : Addr} {Γ : List (Option D)} {H : Hp} {d : D} {ds : List D} {e : Expr} {es : List Expr} {p pos : Pos} {j k : Nat} {x : Str} {R : Hp → List D → D → Prop} (F : Has X.prog X.w X.K X.mg X.base j x (spDH T B R)) (hr : Room k X.A) (ha : AD X T B (e :: es) Γ H ds) (hR : ∀ H1, Ex T H H1 → R H1 ds d) (hjk : j ≤ k := by decide) (hg : Gl X x := by rfl) (hd : (x == ("__debug__" : Str)) = false := by decide)
    (he : starEach (e :: es) X.env = (false, eval e X.env) :: starEach es X.env := by rfl) (hpl : (backTo pos (starEach es X.env)).any (·.1) = false := by rfl) : PD X T B (.Call (.Name x p) (e :: es) [] pos) Γ H d := fun σ H1 x s Q q => by
  obtain ⟨f, hm, hk, F⟩ := F
  exact PE.w (pe_callR F (hr.mono hjk) hk hg hm pass0 (paS X (e :: es)) hd he hpl) (ha σ H1 x s _ fun vs H2 e2 at2 => ⟨ds, d, at2, e2.tabs s.tabs, hR H2 (x.trans e2), fun v H' e3 at3 => q v H' (e2.trans e3) at3⟩)
def R_is_withinD (B : Addr) (H : Hp) (ds : List D) (d : D) : Prop := ∃ (s : List Int) (q : Addr) (kvs : List (Key × V)) (ks : List (Int × D)), s.length < sizeLine ∧ H q = some (.dK kvs) ∧ KvL B H ks kvs ∧ ds = [sD s, .r q] ∧ d = .b (within s (ks.map (·.1)))
theorem has_is_withinD (Z : Zk K mg) : Has P w K mg base 1 "is_within" (spDH T (He.ga K "Book") (R_is_withinD (He.ga K "Book"))) := by
  have hN : (["one", "other", "mark"] : List Str).Nodup := by decide +kernel
  refine has_DH (N := ["one", "other", "mark"]) (ps := ["one", "other"]) (d := dF 17 "is_within" "is_within") (Z.d 3 rfl rfl rfl) (Z.glo 3 rfl) ⟨rfl, rfl, rfl, hN, rfl, by decide +kernel, by decide +kernel⟩ ?hlen (fun _ _ _ _ _ _ us hl => match us, hl with | [_, _], _ => rfl) (fun f cd A outer s0 H E hr0 ds r hR Q q => ?body)
  case hlen => exact fun H ds d ⟨_, _, _, _, _, _, _, h, _⟩ => by rw [h]; rfl
  obtain ⟨s, a, kvs, ks, hz, hd, hk, rfl, rfl⟩ := hR
  refine sd_ret ((pd_allM rfl Z.all (PL.r (pl_lc (own := [("mark", 2)]) (is := [2]) _ _ _ _ rfl hN (id_tup (pdv 0)) (blk_ok (by kernel_rfl)) (fun _ _ _ _ _ => pg_name (i := 2) hN rfl (by first | exact .inl rfl | exact .inr rfl)) (fun a ha => (gd_name)) (by decide) (fun a ha s0 H0 C cl fp => (pd_dinV 1 hr0 (pdv 2) hd hk)) ?_)))) q
  exact hz
/-! ### the closure -/
abbrev kTrue (l : List Int) : List (Int × D) := foldP (fun a : Int => a) (fun _ => D.b true) l
def stepR (ks : List (Int × D)) (r : List Int × List Int) : List (Int × D) := if within r.1 (ks.map (·.1)) = true then mergeD ks (kTrue r.2) else ks
/-- what is had from s by the rules -/
inductive Cl (rs : Rules) (s : List Int) : Int → Prop where
  | base {x : Int} : x ∈ s → Cl rs s x
  | step {x : Int} {r : List Int × List Int} : r ∈ rs → (∀ y ∈ r.1, Cl rs s y) → x ∈ r.2 → Cl rs s x
open Classical in
noncomputable def clo (m : Nat) (rs : Rules) (s : List Int) : List Int := (mks m).filter fun x => decide (Cl rs s x)
theorem clo_ok (m : Nat) (rs : Rules) (s : List Int) : OkS m (clo m rs s) := ⟨(mks_asc m).filter _, fun x h => (mem_mks.mp (List.mem_filter.mp h).1).1, fun x h => (mem_mks.mp (List.mem_filter.mp h).1).2⟩
theorem Cl.rng {m : Nat} {rs : Rules} {s : List Int} (h : OkR m rs) (hs : ∀ x ∈ s, 0 ≤ x ∧ x < m) {x : Int} (c : Cl rs s x) : 0 ≤ x ∧ x < m := by
  cases c with
  | base z => exact hs x z
  | step h1 h2 h3 => exact ⟨(h.ok _ h1).2.lo x h3, (h.ok _ h1).2.hi x h3⟩
theorem mem_clo {m : Nat} {rs : Rules} {s : List Int} (h : OkR m rs) (hs : ∀ x ∈ s, 0 ≤ x ∧ x < m) {x : Int} : x ∈ clo m rs s ↔ Cl rs s x := by
  classical
  unfold clo
  rw [List.mem_filter, decide_eq_true_eq]
  exact ⟨fun z => z.2, fun z => ⟨mem_mks.mpr (z.rng h hs), z⟩⟩
/-- the held marks at some time: between s and its closure -/
structure Held (m : Nat) (rs : Rules) (s : List Int) (ks : List (Int × D)) : Prop where
  nd : (ks.map (·.1)).Nodup
  sub : ∀ x ∈ s, x ∈ ks.map (·.1)
  cl : ∀ x ∈ ks.map (·.1), Cl rs s x
theorem kTrue_keys (l : List Int) : (∀ x, x ∈ (kTrue l).map (·.1) ↔ x ∈ l) ∧ ((kTrue l).map (·.1)).Nodup ∧ (kTrue l).length ≤ l.length := by
  have h := foldP_keys (fun a : Int => a) (fun _ => D.b true) l
  rw [List.map_id'] at h
  exact h
theorem Held.start (m : Nat) (rs : Rules) (s : List Int) : Held m rs s (kTrue s) := ⟨(kTrue_keys s).2.1, fun x h => ((kTrue_keys s).1 x).mpr h, fun x h => .base (((kTrue_keys s).1 x).mp h)⟩
theorem stepR_keys (ks : List (Int × D)) (r : List Int × List Int) : (∀ x, x ∈ (stepR ks r).map (·.1) ↔ x ∈ ks.map (·.1) ∨ (within r.1 (ks.map (·.1)) = true ∧ x ∈ r.2)) ∧ ((ks.map (·.1)).Nodup → ((stepR ks r).map (·.1)).Nodup) := by
  unfold stepR
  by_cases h : within r.1 (ks.map (·.1)) = true
  · rw [if_pos h]
    have g := mergeD_keys (kTrue r.2) ks
    refine ⟨fun x => ?_, g.2.1⟩
    rw [g.1, (kTrue_keys r.2).1]
    exact ⟨fun z => z.imp id fun z => ⟨h, z⟩, fun z => z.imp id fun z => z.2⟩
  · rw [if_neg h]
    exact ⟨fun x => ⟨.inl, fun z => z.elim id fun z => absurd z.1 h⟩, id⟩
theorem within_iff {s t : List Int} : within s t = true ↔ ∀ x ∈ s, x ∈ t := by
  unfold within
  rw [List.all_eq_true]
  exact ⟨fun h x hx => of_decide_eq_true (h x hx), fun h x hx => decide_eq_true (h x hx)⟩
theorem Held.step {m : Nat} {rs : Rules} {s : List Int} {ks : List (Int × D)} (h : Held m rs s ks) {r : List Int × List Int} (hr : r ∈ rs) : Held m rs s (stepR ks r) := by
  obtain ⟨g1, g2⟩ := stepR_keys ks r
  refine ⟨g2 h.nd, fun x hx => (g1 x).mpr (.inl (h.sub x hx)), fun x hx => ?_⟩
  rcases (g1 x).mp hx with z | ⟨z1, z2⟩
  · exact h.cl x z
  · exact .step hr (fun y hy => h.cl y (within_iff.mp z1 y hy)) z2
theorem Held.fold {m : Nat} {rs : Rules} {s : List Int} : ∀ {l : Rules} {ks : List (Int × D)}, (∀ r ∈ l, r ∈ rs) → Held m rs s ks → Held m rs s (l.foldl stepR ks)
  | [], _, _, h => h
  | r :: l, _, hl, h => Held.fold (l := l) (fun r hr => hl r (List.mem_cons_of_mem _ hr)) (h.step (hl r List.mem_cons_self))
theorem fold_sub : ∀ {l : Rules} {ks : List (Int × D)}, ∀ x ∈ ks.map (·.1), x ∈ (l.foldl stepR ks).map (·.1)
  | [], _, _, h => h
  | r :: l, ks, x, h => fold_sub (l := l) x (((stepR_keys ks r).1 x).mpr (.inl h))
theorem fold_shut : ∀ {l : Rules} {ks : List (Int × D)} {r : List Int × List Int}, r ∈ l → (∀ x ∈ r.1, x ∈ ks.map (·.1)) → ∀ x ∈ r.2, x ∈ (l.foldl stepR ks).map (·.1)
  | [], _, _, h, _, _, _ => by cases h
  | r' :: l, ks, r, h, h1, x, h2 => by
    rcases List.mem_cons.mp h with e | e
    · subst e
      exact fold_sub (l := l) x (((stepR_keys ks r).1 x).mpr (.inr ⟨within_iff.mpr h1, h2⟩))
    · exact fold_shut (l := l) e (fun y hy => ((stepR_keys ks r').1 y).mpr (.inl (h1 y hy))) x h2
theorem nodup_sub : ∀ (a b : List Int), a.Nodup → (∀ x ∈ a, x ∈ b) → a.length ≤ b.length
  | [], _, _, _ => Nat.zero_le _
  | x :: a, b, h, hs => by
    obtain ⟨h1, h2⟩ := List.nodup_cons.mp h
    have hx := hs x List.mem_cons_self
    have ih := nodup_sub a (b.erase x) h2 fun y hy => (List.mem_erase_of_ne (fun z => h1 (by rw [← z]; exact hy))).mpr (hs y (List.mem_cons_of_mem _ hy))
    rw [List.length_erase_of_mem hx] at ih
    have : 0 < b.length := List.length_pos_of_mem hx
    rw [List.length_cons]
    omega
theorem nodup_full {a b : List Int} (ha : a.Nodup) (hs : ∀ x ∈ a, x ∈ b) (hl : b.length ≤ a.length) : ∀ x ∈ b, x ∈ a := by
  intro x hx
  by_cases q : x ∈ a
  · exact q
  · have := nodup_sub (x :: a) b (List.nodup_cons.mpr ⟨q, ha⟩) fun y hy => by
      rcases List.mem_cons.mp hy with e | e
      · rw [e]; exact hx
      · exact hs y e
    rw [List.length_cons] at this
    omega
theorem Held.len {m : Nat} {rs : Rules} {s : List Int} {ks : List (Int × D)} (hr : OkR m rs) (hs : ∀ x ∈ s, 0 ≤ x ∧ x < m) (h : Held m rs s ks) : ks.length ≤ m := by
  have := nodup_sub (ks.map (·.1)) (mks m) h.nd fun x hx => mem_mks.mpr ((h.cl x hx).rng hr hs)
  rw [List.length_map] at this
  unfold mks at this
  rw [List.length_map, List.length_range] at this
  exact this
/-- a pass that adds nothing: the closure is had -/
theorem Held.done {m : Nat} {rs : Rules} {s : List Int} {ks : List (Int × D)} (h : Held m rs s ks) (hl : (rs.foldl stepR ks).length = ks.length) : ∀ x, x ∈ (rs.foldl stepR ks).map (·.1) ↔ Cl rs s x := by
  have hf := Held.fold (l := rs) (fun r hr => hr) h
  have back : ∀ x ∈ (rs.foldl stepR ks).map (·.1), x ∈ ks.map (·.1) := nodup_full h.nd fold_sub (by rw [List.length_map, List.length_map, hl]; exact Nat.le_refl _)
  intro x
  refine ⟨hf.cl x, fun c => ?_⟩
  induction c with
  | base z => exact hf.sub _ z
  | step h1 _ h3 ih => exact fold_shut h1 (fun y hy => back y (ih y hy)) _ h3
def R_closure (ds : List D) (d : D) : Prop := ∃ (m : Nat) (rs : Rules) (s : List Int), OkR m rs ∧ (∀ x ∈ s, 0 ≤ x ∧ x < m) ∧ s.length < 64 ∧ ds = [rsD rs, sD s] ∧ d = sD (clo m rs s)
theorem has_closure (Z : Zk K mg) : Has P w K mg base 2 "closure" (spD T (He.ga K "Book") R_closure) := by
  have hN : (["rules", "thing", "held", "many", "mark", "premise", "conclusion"] : List Str).Nodup := by decide +kernel
  refine has_D (N := ["rules", "thing", "held", "many", "mark", "premise", "conclusion"]) (ps := ["rules", "thing"]) (d := dF 21 "closure" "closure") (Z.d 7 rfl rfl rfl) (Z.glo 7 rfl) ⟨rfl, rfl, rfl, hN, rfl, by decide +kernel, by decide +kernel⟩ ?hlen (fun _ _ _ _ _ _ us hl => match us, hl with | [_, _], _ => rfl) (fun f cd A outer s0 H E hr0 ds r hR Q q => ?body)
  case hlen => exact fun ds d ⟨_, _, _, _, _, _, h, _⟩ => by rw [h]; rfl
  obtain ⟨m, rs, s, ho, hs, hz, rfl, rfl⟩ := hR
  refine sd_parN (i := 2) (j := 3) (ks := kTrue s) rfl hN rfl rfl (by decide) rfl rfl (pn_dc (own := [("mark", 4)]) (is := [4]) (s) (D.i) _ _ _ rfl hN (id_tup (pdv 1)) (blk_ok (by kernel_rfl)) (fun _ _ _ _ _ => pg_name (i := 4) hN rfl (by first | exact .inl rfl | exact .inr rfl)) (fun a ha => gd_name) (by decide) (fun a ha s0 H0 C cl fp => (pdv 4)) (fun a ha s0 H0 C cl fp => pd_bl) ?_) (pd_neg pd_int) rfl ?_
  · show s.length < 2 ^ 24
    omega
  intro a kvs H1 hn e1 hd hk
  have st0 : Held m rs s (kTrue s) := Held.start m rs s
  refine sd_while (S := fun b => b = a) (α := List (Int × D) × Int) (fun st H' => ∃ kvs, H' a = some (.dK kvs) ∧ KvL (He.ga K "Book") H' st.1 kvs ∧ Held m rs s st.1 ∧ (st.2 = (st.1.length : Int) → ∀ x, x ∈ st.1.map (·.1) ↔ Cl rs s x))
    (fun st => [some (rsD rs), some (sD s), some (.r a), some (.i st.2), none, none, none]) (fun st => 2 * (m - st.1.length) + if st.2 = (st.1.length : Int) then 0 else 1) (fun st => !decide (st.2 = (st.1.length : Int))) (kTrue s, -1)
    PassesOwn.never (fun st H1 H2 ⟨kvs, h1, h2, h3⟩ e => ⟨kvs, Ex.dk e h1, h2.mono e, h3⟩) ?hc ⟨kvs, hd, hk, st0, fun z => by exfalso; have : (-1 : Int) = ((kTrue s).length : Int) := z; omega⟩ (gle (by repeat' first | exact True.intro | exact rfl | refine And.intro ?_ ?_)) ?turn ?done
  case hc =>
    rintro st H' ⟨kvs, h1, h2, _⟩ _
    exact td_neI (pdv 3) (pd_lenV 2 Z.len h1 h2)
  case turn =>
    rintro H2 e2 st H' ht eb ⟨kvs, h1, h2, h3, h4⟩
    have hne : ¬ st.2 = (st.1.length : Int) := of_decide_eq_false (by simpa using ht)
    refine sd_set (i := 3) hN rfl (.inl rfl) (pd_lenV 2 Z.len h1 h2) ?_
    refine sd_for (S := fun b => b = a) rs ruD (fun k H'' => ∃ kvs, H'' a = some (.dK kvs) ∧ KvL (He.ga K "Book") H'' ((rs.take k).foldl stepR st.1) kvs)
      (fun _ => [some (rsD rs), some (sD s), some (.r a), some (.i st.1.length), none, none, none]) (fun _ r => [some (rsD rs), some (sD s), some (.r a), some (.i st.1.length), none, some (sD r.1), some (sD r.2)])
      PassesOwn.never rfl (id_tup (pdv 0)) (pg_tup rfl (pgs_cons (pg_name (i := 5) hN rfl (.inl rfl)) (pgs_cons (pg_name (i := 6) hN rfl (.inl rfl)) pgs_nil))) (fun k r _ => gd_tup2)
      (fun H1 e => ⟨kvs, Ex.dk e h1, h2.mono e⟩) (gle (by repeat' first | exact True.intro | exact rfl | refine And.intro ?_ ?_)) (fun k H1 H2 ⟨kvs, g1, g2⟩ e => ⟨kvs, Ex.dk e g1, g2.mono e⟩) ?_ ?_
    · rintro H3 e3 k r H4 hr eb4 ⟨kvs4, g1, g2⟩
      have hrm : r ∈ rs := List.mem_of_getElem? hr
      have tk : rs.take (k + 1) = rs.take k ++ [r] := by rw [List.take_add_one, hr]; rfl
      have fs : (rs.take (k + 1)).foldl stepR st.1 = stepR ((rs.take k).foldl stepR st.1) r := by rw [tk, List.foldl_append]; rfl
      have hH : Held m rs s ((rs.take k).foldl stepR st.1) := Held.fold (fun r hr => List.mem_of_mem_take hr) h3
      have hl := hH.len ho hs
      have hl2 := (kTrue_keys r.2).2.2
      have hl3 := (ho.ok r hrm).2.len
      have h5 := ho.m5
      refine sd_if (td_val (pd_callH (has_is_withinD Z) hr0 (ad_cons (pdv 5) (ad_cons (pdv 2) ad_nil)) (fun H1 e => ⟨_, _, _, _, (ho.ok r hrm).1.sz ho.m5, Ex.dk e g1, g2.mono e, rfl, rfl⟩))) (fun hw => ?_) (fun hw => ?_)
      · refine sd_update 2 g1 g2 (pn_dc (own := [("mark", 4)]) (is := [4]) (r.2) (D.i) _ _ _ rfl hN (id_tup (pdv 6)) (blk_ok (by kernel_rfl)) (fun _ _ _ _ _ => pg_name (i := 4) hN rfl (by first | exact .inl rfl | exact .inr rfl)) (fun a ha => gd_name) (by decide) (fun a ha s0 H0 C cl fp => (pdv 4)) (fun a ha s0 H0 C cl fp => pd_bl) ?_) ?_ ?_
        · exact (ho.ok r hrm).2.sz ho.m5
        · show _ ≤ 2 ^ 24
          have : (kTrue r.2).length ≤ m := by omega
          show ((rs.take k).foldl stepR st.1).length + (kTrue r.2).length ≤ 2 ^ 24
          omega
        · intro H5 kvs5 e5 g5 g6
          refine sd_nil fun σ H6 e6 s6 => wS_nil ⟨(eb4.trans e5).trans (Ex.to e6), s6.gle (gle (by repeat' first | exact True.intro | exact rfl | refine And.intro ?_ ?_)), kvs5, Ex.dk e6 g5, ?_⟩
          rw [fs]
          rw [show stepR ((rs.take k).foldl stepR st.1) r = mergeD ((rs.take k).foldl stepR st.1) (kTrue r.2) from if_pos hw]
          exact g6.mono e6
      · refine sd_nil fun σ H6 e6 s6 => wS_nil ⟨eb4.trans (Ex.to e6), s6.gle (gle (by repeat' first | exact True.intro | exact rfl | refine And.intro ?_ ?_)), kvs4, Ex.dk e6 g1, ?_⟩
        rw [fs]
        rw [show stepR ((rs.take k).foldl stepR st.1) r = (rs.take k).foldl stepR st.1 from if_neg (by rw [hw]; exact Bool.false_ne_true)]
        exact g2.mono e6
    · rintro H3 eb3 ⟨kvs3, g1, g2⟩
      rw [List.take_length] at g2
      have hF := Held.fold (l := rs) (fun r hr => hr) h3
      have l1 := hF.len ho hs
      have l0 := h3.len ho hs
      have hle : st.1.length ≤ (rs.foldl stepR st.1).length := by
        have := nodup_sub (st.1.map (·.1)) ((rs.foldl stepR st.1).map (·.1)) h3.nd fold_sub
        rw [List.length_map, List.length_map] at this
        exact this
      refine sd_nil fun σ H6 e6 s6 => ⟨(rs.foldl stepR st.1, (st.1.length : Int)), ?_, eb.trans (eb3.trans (Ex.to e6)), s6.gle (gle (by repeat' first | exact True.intro | exact rfl | refine And.intro ?_ ?_)), kvs3, Ex.dk e6 g1, g2.mono e6, hF, fun z => ?_⟩
      · show 2 * (m - (rs.foldl stepR st.1).length) + (if (st.1.length : Int) = ((rs.foldl stepR st.1).length : Int) then 0 else 1) < 2 * (m - st.1.length) + (if st.2 = (st.1.length : Int) then 0 else 1)
        rw [if_neg hne]
        by_cases q : (st.1.length : Int) = ((rs.foldl stepR st.1).length : Int)
        · rw [if_pos q]; omega
        · rw [if_neg q]; omega
      · have z : (st.1.length : Int) = ((rs.foldl stepR st.1).length : Int) := z
        exact h3.done (by omega)
  case done =>
    rintro st H' ht eb ⟨kvs, h1, h2, h3, h4⟩
    have he : st.2 = (st.1.length : Int) := by simpa using ht
    have l0 := h3.len ho hs
    have h5 := ho.m5
    refine sd_ret (pd_tupleL Z.tuple_ (PL.r (pl_sortedV 2 rfl Z.sorted h1 h2 (by omega) h3.nd (clo_ok m rs s).asc ?_))) ?_
    · intro x
      rw [mem_clo ho hs, h4 he]
    · intro v H2 e2 a2
      exact q v H2 (((Ex.to e1).trans (eb.trans (Ex.to e2))).drop fun b hb => by rw [hb]; exact hn) a2
end
end G30
set_option Elab.async false
set_option linter.all false
set_option maxRecDepth 100000
set_option maxHeartbeats 4000000
set_option autoImplicit false
namespace G30
open PySem PySem.Spec PyProof.Rows L2 LamX StX SlX
section
variable {P : Program} {w : World} {K : PySem.W.Frag} {mg : Str → Option Value} {base : Heap}
def lamQ (q : Str) : Str := (q ++ ".<locals>.") ++ "<lambda>"
/-- the tables that grow -/
def tabsT (K : PySem.W.Frag) : List (Addr × Str) := [((He.cT K ("in_order", none)).2, lamQ "in_order"), ((He.cT K ("_law_sets", none)).2, lamQ "_law_sets")]
structure TbF (K : PySem.W.Frag) (mg : Str → Option Value) (base : Heap) : Prop where
  a : TabB base mg (He.cT K ("in_order", none)).1 (He.cT K ("in_order", none)).2
  b : TabB base mg (He.cT K ("_law_sets", none)).1 (He.cT K ("_law_sets", none)).2
/-- as fnr_of, the code object known -/
theorem fnr_ofC {x : Str} {N ps : List Str} {k : Nat} {d : He.DefD} {sp : Sp} (D0 : DefOk K mg x d) (S : FnScope N ps d.scope) (hlen : ∀ vs H Q E, sp vs H Q E → vs.length = ps.length)
    (hb : ∀ (kV doc pm : Value) (an : Option Addr) (cdv ct : Value) (us : List Value), us.length = ps.length → bindArgs (PySem.W.fnOf d.name d.qual d.params d.body d.scope .none kV doc pm an cdv ct) ⟨us, []⟩ = pure (ps.zip us))
    (body : ∀ c A outer s H E, c = He.codeOf K d.at_ → Room k (bx P w K mg base N d (He.fAd K d.at_) (.ref c) A outer s H E).A → ∀ vs Q, sp vs H Q E → wS (bx P w K mg base N d (He.fAd K d.at_) (.ref c) A outer s H E) d.body { nx := fun _ H' => Q .non H', rt := Q } (L2.start N vs) H) :
    FnR P w K mg base CX0 (k + 1) (He.fAd K d.at_) sp ∧ PySem.W.keepIn K (.ref (He.fAd K d.at_)) = true := by
  obtain ⟨fd, F⟩ := D0.fd
  have e1 : d.dvs K = [] := by unfold He.DefD.dvs; rw [D0.d0]; rfl
  have e2 : d.kws K = [] := by unfold He.DefD.kws; rw [D0.k0]; rfl
  rw [e1, e2] at F
  have b : Binds K fd ps [] := F.bindsN hb
  obtain ⟨oc, od, dV, kV, doc, pm, an, cdv, ct, osl, efd, lk, hcd, _, _⟩ := id F.ex
  subst efd
  obtain ⟨c, rfl⟩ := He.codeIn_ref hcd
  have ec : c = He.codeOf K d.at_ := (He.codeOf_eq lk rfl).symm
  have ok : FnOk P w K mg base CX0 (k + 1) (He.fAd K d.at_) _ ps sp := fn_of lk hcd S hlen fun A outer s H vs Q E hr h => ⟨_, PSs.nox (psS _ _), body c A outer s H E ec hr vs Q h⟩
  have r := ok.raw b .nil
  exact ⟨r.imp fun vs H Q E h => by rw [List.append_nil]; exact h, F.kp⟩
def spLH (T : List (Addr × Str)) (B : Addr) (R : Hp → List D → List D → Prop) : Sp := fun vs H Q _ => ∃ ds es, AtL B H ds vs ∧ Tabs T H ∧ R H ds es ∧ ∀ p ws H', Nw H p → Ex T H H' → H' p = some (.lst ws) → AtL B H' es ws → Q (.ref p) H'
theorem has_LHC {T : List (Addr × Str)} {x : Str} {N ps : List Str} {k : Nat} {B : Addr} {d : He.DefD} {R : Hp → List D → List D → Prop} (D0 : DefOk K mg x d) (g : mg x = some (.ref (He.fAd K d.at_))) (S : FnScope N ps d.scope) (hlen : ∀ H ds d, R H ds d → ds.length = ps.length)
    (hb : ∀ (kV doc pm : Value) (an : Option Addr) (cdv ct : Value) (us : List Value), us.length = ps.length → bindArgs (PySem.W.fnOf d.name d.qual d.params d.body d.scope .none kV doc pm an cdv ct) ⟨us, []⟩ = pure (ps.zip us))
    (body : ∀ c A outer s H E, c = He.codeOf K d.at_ → Room k (bx P w K mg base N d (He.fAd K d.at_) (.ref c) A outer s H E).A → ∀ ds r, R H ds r → ∀ Q : VK, (∀ p ws H', Nw H p → Ex T H H' → H' p = some (.lst ws) → AtL B H' r ws → Q (.ref p) H') →
      SD (bx P w K mg base N d (He.fAd K d.at_) (.ref c) A outer s H E) T B d.body (startG N ds) H { nx := fun _ H' => Q .non H', rt := Q }) :
    Has P w K mg base (k + 1) x (spLH T B R) := by
  obtain ⟨h1, h2⟩ := fnr_ofC (N := N) (ps := ps) (k := k) (P := P) (w := w) (base := base) (sp := spLH T B R) D0 S (fun vs H Q E ⟨ds, r, a, t, hR, _⟩ => by rw [a.len]; exact hlen H ds r hR) hb fun c A outer s H E ec hr vs Q ⟨ds, r, a, t, hR, q⟩ => body c A outer s H E ec hr ds r hR Q q _ H (Exb.refl _) (sl_start t a)
  exact ⟨_, g, h2, h1⟩
theorem pl_callH {X : Cx} {T : List (Addr × Str)} {B : Addr} {Γ : List (Option D)} {H : Hp} {ds ds' : List D} {e : Expr} {es : List Expr} {p pos : Pos} {j k : Nat} {x : Str} {R : Hp → List D → List D → Prop} (F : Has X.prog X.w X.K X.mg X.base j x (spLH T B R)) (hr : Room k X.A) (ha : AD X T B (e :: es) Γ H ds) (hR : ∀ H1, Ex T H H1 → R H1 ds ds') (hjk : j ≤ k := by decide) (hg : Gl X x := by rfl) (hd : (x == ("__debug__" : Str)) = false := by decide)
    (he : starEach (e :: es) X.env = (false, eval e X.env) :: starEach es X.env := by rfl) (hpl : (backTo pos (starEach es X.env)).any (·.1) = false := by rfl) : PL X T B (.Call (.Name x p) (e :: es) [] pos) Γ H ds' := fun σ H1 x s Q q => by
  obtain ⟨f, hm, hk, F⟩ := F
  exact PE.w (pe_callR F (hr.mono hjk) hk hg hm pass0 (paS X (e :: es)) hd he hpl) (ha σ H1 x s _ fun vs H2 e2 at2 => ⟨ds, ds', at2, e2.tabs s.tabs, hR H2 (x.trans e2), fun p ws H' e3 e4 e5 at3 => q p ws H' (e2.free e3) (e2.trans e4) e5 at3⟩)
/-! ### in_order, sets_of -/
def R_in_order (K : PySem.W.Frag) (B : Addr) (H : Hp) (ds es : List D) : Prop := ∃ (ss : List (List Int)) (p : Addr) (vs : List V), ds = [.r p] ∧ SqL K H p vs ∧ AtL B H (ss.map sD) vs ∧ ss.length ≤ 1000 ∧ (∀ s ∈ ss, s.length ≤ 1000) ∧ es = (inOrder ss).map sD
theorem tabs_u {K : PySem.W.Frag} (X : ExF K) : (∀ p ∈ tabsT K, p.1 = (He.cT K ("in_order", none)).2 → p.2 = lamQ "in_order") ∧ (∀ p ∈ tabsT K, p.1 = (He.cT K ("_law_sets", none)).2 → p.2 = lamQ "_law_sets") := by
  constructor
  · intro p hp e
    rcases List.mem_cons.mp hp with h | h
    · rw [h]
    · rw [List.mem_singleton.mp h] at e
      exact absurd e.symm X.tb
  · intro p hp e
    rcases List.mem_cons.mp hp with h | h
    · rw [h] at e
      exact absurd e X.tb
    · rw [List.mem_singleton.mp h]
theorem has_in_order (Z : Zk K mg) (TB : TbF K mg base) : Has P w K mg base 3 "in_order" (spLH (tabsT K) (He.ga K "Book") (R_in_order K (He.ga K "Book"))) := by
  refine has_LHC (N := ["sets"]) (ps := ["sets"]) (d := dF 19 "in_order" "in_order") (Z.d 5 rfl rfl rfl) (Z.glo 5 rfl) ⟨rfl, rfl, rfl, by decide +kernel, rfl, by decide +kernel, by decide +kernel⟩ (fun H ds d ⟨_, _, _, h, _⟩ => by rw [h]; rfl) (fun _ _ _ _ _ _ us hl => match us, hl with | [_], _ => rfl) (fun c A outer s0 H E ec hr0 ds r hR Q q => ?_)
  obtain ⟨ss, p, vs, rfl, hp, hv, h1, h2, rfl⟩ := hR
  subst ec
  refine sd_retL (pl_sortLam (c := (He.cT K ("in_order", none)).1) (Pt := (He.cT K ("in_order", none)).2) Z.sorted Z.len (prv 0 hp hv) TB.a rfl (.head _) (tabs_u Z.ex).1 hr0 h1 h2 rfl (fun _ _ _ _ _ _ => rfl) (by decide +kernel) rfl rfl rfl (by decide +kernel) rfl rfl) q
/-- all sets of marks below m, as they are made -/
def subs : Nat → List (List Int)
  | 0 => [[]]
  | k + 1 => subs k ++ (subs k).map fun s => s ++ [(k : Int)]
theorem subs_len : ∀ m, (subs m).length = 2 ^ m
  | 0 => rfl
  | k + 1 => by
    show (subs k ++ (subs k).map _).length = _
    rw [List.length_append, List.length_map, subs_len k, Nat.pow_succ]
    omega
theorem subs_each : ∀ m, ∀ s ∈ subs m, s.length ≤ m
  | 0, s, h => by
    rw [List.mem_singleton.mp h]
    exact Nat.zero_le _
  | k + 1, s, h => by
    rcases List.mem_append.mp h with h | h
    · have := subs_each k s h
      omega
    · obtain ⟨t, h1, rfl⟩ := List.mem_map.mp h
      have := subs_each k t h1
      rw [List.length_append, List.length_singleton]
      omega
theorem subs_step (k : Nat) : (subs k).map sD ++ ((subs k).map (fun s => D.t (s.map D.i ++ [D.i (0 + (k : Int))])) ++ []) = (subs (k + 1)).map sD := by
  show _ = (subs k ++ (subs k).map fun s => s ++ [(k : Int)]).map sD
  rw [List.append_nil, List.map_append, List.map_map]
  congr 1
  refine List.map_congr_left fun s _ => ?_
  show D.t (s.map D.i ++ [D.i (0 + (k : Int))]) = D.t ((s ++ [(k : Int)]).map D.i)
  rw [List.map_append, Int.zero_add]
  rfl
theorem two_pow_le {k m : Nat} (hk : k ≤ m) (hm : m ≤ 5) : 2 ^ k ≤ 32 := by
  have : 2 ^ k ≤ 2 ^ 5 := Nat.pow_le_pow_right (by decide) (by omega)
  exact this
def R_sets_of (ds es : List D) : Prop := ∃ m : Nat, m ≤ 5 ∧ ds = [.i m] ∧ es = (inOrder (subs m)).map sD
theorem has_sets_of (Z : Zk K mg) (TB : TbF K mg base) : Has P w K mg base 4 "sets_of" (spL (tabsT K) (He.ga K "Book") R_sets_of) := by
  have hN : (["marks", "found", "mark", "one"] : List Str).Nodup := by decide +kernel
  refine has_L (N := ["marks", "found", "mark", "one"]) (ps := ["marks"]) (d := dF 20 "sets_of" "sets_of") (Z.d 6 rfl rfl rfl) (Z.glo 6 rfl) ⟨rfl, rfl, rfl, hN, rfl, by decide +kernel, by decide +kernel⟩ ?hlen (fun _ _ _ _ _ _ us hl => match us, hl with | [_], _ => rfl) (fun f cd A outer s0 H E hr0 ds r hR Q q => ?body)
  case hlen => exact fun ds d ⟨_, _, h, _⟩ => by rw [h]; rfl
  obtain ⟨m, hm, rfl, rfl⟩ := hR
  refine sd_setL (i := 1) hN rfl (by first | exact .inl rfl | exact .inr rfl) (pl_lst (ad_cons (pd_tup ad_nil (Nat.zero_le _)) ad_nil) (by show 1 ≤ 2 ^ 24; decide)) ?_
  intro p vs H1 hn1 e1 hp hv
  refine sd_forE (S := Nob) (β := Addr) (List.range m) (fun (k : Nat) => D.i (0 + (k : Int))) (fun k p H' => ∃ vs, H' p = some (.lst vs) ∧ AtL (He.ga K "Book") H' ((subs k).map sD) vs) (fun _ p => [some (.i m), some (.r p), none, none])
    (fun k a p => [some (.i m), some (.r p), some (.i (0 + (a : Int))), none]) p PassesOwn.never rfl (ID.is (id_range1 Z.range (pdv 0) ⟨by omega, by omega⟩) (by rw [Int.toNat_natCast]; rfl)) (pg_name (i := 2) hN rfl (by first | exact .inl rfl | exact .inr rfl)) (fun k a p _ => gd_name) ⟨vs, hp, hv⟩ (gle (by repeat' first | exact True.intro | exact rfl | refine And.intro ?_ ?_))
    (fun k p H1 H2 ⟨vs, h1, h2⟩ e => ⟨vs, Ex.lst e h1, h2.mono e⟩) ?_ ?_
  · rintro H2 e2 k a p' H' ha eb ⟨vs', h1, h2⟩
    obtain ⟨hk, rfl⟩ : k < m ∧ k = a := by
      have h := List.getElem?_eq_some_iff.mp ha
      obtain ⟨h3, h4⟩ := h
      rw [List.length_range] at h3
      rw [List.getElem_range] at h4
      exact ⟨h3, h4⟩
    have hl := subs_len k
    have h32 := two_pow_le (Nat.le_of_lt hk) hm
    have he := subs_each k
    refine sd_setL (i := 1) hN rfl (by first | exact .inl rfl | exact .inr rfl) (PL.is ((pl_lst (ad_starL (prv 1 (SqL.of h1) h2)  (ad_starL (PL.r (pl_lc (own := [("one", 3)]) (is := [3]) (subs k) (sD) _ _ rfl hN (id_listR (prv 1 (SqL.of h1) h2)) (blk_ok (by kernel_rfl)) (fun _ _ _ _ _ => pg_name (i := 3) hN rfl (by first | exact .inl rfl | exact .inr rfl)) (fun a ha => (gd_name)) (by decide) (fun a ha s0 H0 C cl fp => (pd_tup (ad_starT (pdv 3)  (ad_cons (pdv 2) ad_nil)) ?_)) ?_))  ad_nil)) ?_)) (subs_step k)) ?_
    · rw [List.length_append, List.length_map, List.length_singleton]
      have := he a ha
      show a.length + 1 ≤ 2 ^ 24
      omega
    · show (subs k).length < 2 ^ 24
      omega
    · simp only [List.length_append, List.length_map, List.length_nil]
      show _ ≤ 2 ^ 24
      omega
    · intro p2 vs2 H3 hn3 e3 hp3 hv3
      exact sd_nil fun σ H4 e4 s4 => ⟨p2, eb.trans (e3.trans e4), s4.gle (gle (by repeat' first | exact True.intro | exact rfl | refine And.intro ?_ ?_)), vs2, Ex.lst e4 hp3, hv3.mono e4⟩
  · rintro p' H' eb ⟨vs', h1, h2⟩
    rw [List.length_range] at h2
    refine sd_retL (pl_callH (has_in_order Z TB) hr0 (ad_cons (pdv 1) ad_nil) (fun H1 e => ⟨subs m, p', vs', rfl, SqL.of (Ex.lst e h1), h2.mono e, ?_, ?_, rfl⟩)) ?_
    · have := subs_len m
      have := two_pow_le (Nat.le_refl m) hm
      omega
    · intro s hs
      have := subs_each m s hs
      omega
    · intro p3 ws H3 hn3 e3 hp3 hv3
      exact q p3 ws H3 ((e1.trans eb).free hn3) ((e1.trans eb).trans e3) hp3 hv3
theorem subs_step2 (k : Nat) : (subs k).map sD ++ (subs k).map (fun s => D.t (s.map D.i ++ [D.i (0 + (k : Int))])) = (subs (k + 1)).map sD := by
  rw [← subs_step k, List.append_nil]
theorem has__law_sets (Z : Zk K mg) (TB : TbF K mg base) : Has P w K mg base 3 "_law_sets" (spLH (tabsT K) (He.ga K "Book") fun _ => R_sets_of) := by
  have hN : (["_law_marks", "_law_found", "_law_mark", "_law_one"] : List Str).Nodup := by decide +kernel
  refine has_LHC (N := ["_law_marks", "_law_found", "_law_mark", "_law_one"]) (ps := ["_law_marks"]) (d := dF 80 "_law_sets" "_law_sets") (Z.d 60 rfl rfl rfl) (Z.glo 51 rfl) ⟨rfl, rfl, rfl, hN, rfl, by decide +kernel, by decide +kernel⟩ (fun H ds d ⟨_, _, h, _⟩ => by rw [h]; rfl) (fun _ _ _ _ _ _ us hl => match us, hl with | [_], _ => rfl) (fun c A outer s0 H E ec hr0 ds r hR Q q => ?_)
  obtain ⟨m, hm, rfl, rfl⟩ := hR
  subst ec
  refine sd_setL (i := 1) hN rfl (by first | exact .inl rfl | exact .inr rfl) (pl_lst (ad_cons (pd_tup ad_nil (Nat.zero_le _)) ad_nil) (by show 1 ≤ 2 ^ 24; decide)) ?_
  intro p vs H1 hn1 e1 hp hv
  refine sd_forE (S := Nob) (β := Addr) (List.range m) (fun (k : Nat) => D.i (0 + (k : Int))) (fun k p H' => ∃ vs, H' p = some (.lst vs) ∧ AtL (He.ga K "Book") H' ((subs k).map sD) vs) (fun _ p => [some (.i m), some (.r p), none, none])
    (fun k a p => [some (.i m), some (.r p), some (.i (0 + (a : Int))), none]) p PassesOwn.never rfl (ID.is (id_range1 Z.range (pdv 0) ⟨by omega, by omega⟩) (by rw [Int.toNat_natCast]; rfl)) (pg_name (i := 2) hN rfl (by first | exact .inl rfl | exact .inr rfl)) (fun k a p _ => gd_name) ⟨vs, hp, hv⟩ (gle (by repeat' first | exact True.intro | exact rfl | refine And.intro ?_ ?_))
    (fun k p H1 H2 ⟨vs, h1, h2⟩ e => ⟨vs, Ex.lst e h1, h2.mono e⟩) ?_ ?_
  · rintro H2 e2 k a p' H' ha eb ⟨vs', h1, h2⟩
    obtain ⟨hk, rfl⟩ : k < m ∧ k = a := by
      have h := List.getElem?_eq_some_iff.mp ha
      obtain ⟨h3, h4⟩ := h
      rw [List.length_range] at h3
      rw [List.getElem_range] at h4
      exact ⟨h3, h4⟩
    have hl := subs_len k
    have h32 := two_pow_le (Nat.le_of_lt hk) hm
    have he := subs_each k
    refine sd_setL (i := 1) hN rfl (by first | exact .inl rfl | exact .inr rfl) (PL.is ((pl_cat (pkv 1 (h1) (h2)) (PL.tr (pl_lc (own := [("_law_one", 3)]) (is := [3]) (subs k) (sD) _ _ rfl hN (id_listR (prv 1 (SqL.of h1) h2)) (blk_ok (by kernel_rfl)) (fun _ _ _ _ _ => pg_name (i := 3) hN rfl (by first | exact .inl rfl | exact .inr rfl)) (fun a ha => (gd_name)) (by decide) (fun a ha s0 H0 C cl fp => (pd_catT (pdv 3) (pd_tup (ad_cons (pdv 2) ad_nil) ?_) ?_)) ?_)) ?_)) (subs_step2 k)) ?_
    · show 1 ≤ 2 ^ 24
      decide
    · rw [List.length_map, List.length_singleton]
      have := he a ha
      show a.length + 1 ≤ 2 ^ 24
      omega
    · show (subs k).length < 2 ^ 24
      omega
    · simp only [List.length_map]
      show _ ≤ 2 ^ 24
      omega
    · intro p2 vs2 H3 hn3 e3 hp3 hv3
      exact sd_nil fun σ H4 e4 s4 => ⟨p2, eb.trans (e3.trans e4), s4.gle (gle (by repeat' first | exact True.intro | exact rfl | refine And.intro ?_ ?_)), vs2, Ex.lst e4 hp3, hv3.mono e4⟩
  · rintro p' H' eb ⟨vs', h1, h2⟩
    rw [List.length_range] at h2
    refine sd_retL (pl_sortLam (c := (He.cT K ("_law_sets", none)).1) (Pt := (He.cT K ("_law_sets", none)).2) Z.sorted Z.len (prv 1 (SqL.of h1) h2) TB.b rfl (.tail _ (.head _)) (tabs_u Z.ex).2 hr0 ?_ ?_ rfl (fun _ _ _ _ _ _ => rfl) (by decide +kernel) rfl rfl rfl (by decide +kernel) rfl rfl) ?_
    · have := subs_len m
      have := two_pow_le (Nat.le_refl m) hm
      omega
    · intro s hs
      have := subs_each m s hs
      omega
    · intro p3 ws H3 hn3 e3 hp3 hv3
      exact q p3 ws H3 ((e1.trans eb).free hn3) ((e1.trans eb).trans e3) hp3 hv3
end
end G30
set_option Elab.async false
set_option linter.all false
set_option maxRecDepth 100000
set_option maxHeartbeats 4000000
set_option autoImplicit false
namespace G30
open PySem PySem.Spec PyProof.Rows L2 LamX StX SlX
section
variable {P : Program} {w : World} {K : PySem.W.Frag} {mg : Str → Option Value} {base : Heap} {T : List (Addr × Str)}
theorem OkS.rg {m : Nat} {s : List Int} (h : OkS m s) : ∀ x ∈ s, 0 ≤ x ∧ x < m := fun x hx => ⟨h.lo x hx, h.hi x hx⟩
theorem OkS.l64 {m : Nat} {s : List Int} (h : OkS m s) (hm : m ≤ 5) : s.length < 64 := by
  have := h.len
  omega
def R_whole_of (ds : List D) (d : D) : Prop := ∃ (m : Nat) (rs : Rules), OkR m rs ∧ ds = [bkD m rs] ∧ d = sD (mks m)
theorem has_whole_of (Z : Zk K mg) : Has P w K mg base 1 "whole_of" (spD T (He.ga K "Book") R_whole_of) := by
  have hN : (["book"] : List Str).Nodup := by decide +kernel
  refine has_D (N := ["book"]) (ps := ["book"]) (d := dF 24 "whole_of" "whole_of") (Z.d 13 rfl rfl rfl) (Z.glo 9 rfl) ⟨rfl, rfl, rfl, hN, rfl, by decide +kernel, by decide +kernel⟩ ?hlen (fun _ _ _ _ _ _ us hl => match us, hl with | [_], _ => rfl) (fun f cd A outer s0 H E hr0 ds r hR Q q => ?body)
  case hlen => exact fun ds d ⟨_, _, _, h, _⟩ => by rw [h]; rfl
  obtain ⟨m, rs, ho, rfl, rfl⟩ := hR
  have h5 := ho.m5
  refine sd_ret (PD.is ((pd_tupRg1 rfl Z.tuple_ Z.range (pd_bkM Z.bk (pdv 0)) ?_)) (by rw [Int.toNat_natCast, rgD_mks])) q
  omega
def R_check_book (ds : List D) (d : D) : Prop := ∃ (m : Nat) (rs : Rules), ds = [bkD m rs] ∧ d = .n
theorem has_check_book (Z : Zk K mg) : Has P w K mg base 1 "check_book" (spD T (He.ga K "Book") R_check_book) := by
  have hN : (["thing"] : List Str).Nodup := by decide +kernel
  refine has_D (N := ["thing"]) (ps := ["thing"]) (d := dF 25 "check_book" "check_book") (Z.d 14 rfl rfl rfl) (Z.glo 10 rfl) ⟨rfl, rfl, rfl, hN, rfl, by decide +kernel, by decide +kernel⟩ ?hlen (fun _ _ _ _ _ _ us hl => match us, hl with | [_], _ => rfl) (fun f cd A outer s0 H E hr0 ds r hR Q q => ?body)
  case hlen => exact fun ds d ⟨_, _, h, _⟩ => by rw [h]; rfl
  obtain ⟨m, rs, rfl, rfl⟩ := hR
  exact sd_skip ((td_not (td_val (pd_isiB Z.bk Z.isinstance (Z.glo 66 rfl) (pdv 0))))) (sd_nil fun σ H1 e s => q .non H1 e rfl)
def R_check_set (ds : List D) (d : D) : Prop := ∃ (m : Nat) (s : List Int), m ≤ 5 ∧ OkS m s ∧ ds = [.i m, sD s] ∧ d = .n
theorem has_check_set (Z : Zk K mg) : Has P w K mg base 3 "check_set" (spD T (He.ga K "Book") R_check_set) := by
  have hN : (["marks", "thing"] : List Str).Nodup := by decide +kernel
  refine has_D (N := ["marks", "thing"]) (ps := ["marks", "thing"]) (d := dF 26 "check_set" "check_set") (Z.d 15 rfl rfl rfl) (Z.glo 11 rfl) ⟨rfl, rfl, rfl, hN, rfl, by decide +kernel, by decide +kernel⟩ ?hlen (fun _ _ _ _ _ _ us hl => match us, hl with | [_, _], _ => rfl) (fun f cd A outer s0 H E hr0 ds r hR Q q => ?body)
  case hlen => exact fun ds d ⟨_, _, _, _, h, _⟩ => by rw [h]; rfl
  obtain ⟨m, s, hm, hs, rfl, rfl⟩ := hR
  refine sd_skip ((td_not (td_val (pd_call (has_is_set Z) hr0 (ad_cons (pdv 0) (ad_cons (pdv 1) ad_nil)) ⟨_, _, ?_, ?_, rfl, rfl⟩)))) (sd_nil fun σ H1 e s => q .non H1 e rfl)
  · exact hm
  · exact hs
def R_check_rule (ds : List D) (d : D) : Prop := ∃ (m : Nat) (rs : Rules) (r : List Int × List Int), OkR m rs ∧ OkS m r.1 ∧ OkS m r.2 ∧ ds = [bkD m rs, ruD r] ∧ d = .n
theorem has_check_rule (Z : Zk K mg) : Has P w K mg base 4 "check_rule" (spD T (He.ga K "Book") R_check_rule) := by
  have hN : (["book", "rule"] : List Str).Nodup := by decide +kernel
  refine has_D (N := ["book", "rule"]) (ps := ["book", "rule"]) (d := dF 27 "check_rule" "check_rule") (Z.d 16 rfl rfl rfl) (Z.glo 12 rfl) ⟨rfl, rfl, rfl, hN, rfl, by decide +kernel, by decide +kernel⟩ ?hlen (fun _ _ _ _ _ _ us hl => match us, hl with | [_, _], _ => rfl) (fun f cd A outer s0 H E hr0 ds r hR Q q => ?body)
  case hlen => exact fun ds d ⟨_, _, _, _, _, _, h, _⟩ => by rw [h]; rfl
  obtain ⟨m, rs, r, ho, h1, h2, rfl, rfl⟩ := hR
  refine sd_expr ((pd_call (has_check_book Z) hr0 (ad_cons (pdv 0) ad_nil) ⟨_, _, rfl, rfl⟩)) ?_
  refine sd_skip ((td_not (td_val (pd_call (has_is_rule Z) hr0 (ad_cons (pd_bkM Z.bk (pdv 0)) (ad_cons (pdv 1) ad_nil)) ⟨_, _, ?_, ?_, ?_, rfl, rfl⟩)))) (sd_nil fun σ H1 e s => q .non H1 e rfl)
  · exact ho.m5
  · exact h1
  · exact h2
def R_check_goal (ds : List D) (d : D) : Prop := ∃ (m : Nat) (rs : Rules) (g : List Int), OkR m rs ∧ OkS m g ∧ ds = [bkD m rs, sD g] ∧ d = .n
theorem has_check_goal (Z : Zk K mg) : Has P w K mg base 4 "check_goal" (spD T (He.ga K "Book") R_check_goal) := by
  have hN : (["book", "goal"] : List Str).Nodup := by decide +kernel
  refine has_D (N := ["book", "goal"]) (ps := ["book", "goal"]) (d := dF 30 "check_goal" "check_goal") (Z.d 17 rfl rfl rfl) (Z.glo 13 rfl) ⟨rfl, rfl, rfl, hN, rfl, by decide +kernel, by decide +kernel⟩ ?hlen (fun _ _ _ _ _ _ us hl => match us, hl with | [_, _], _ => rfl) (fun f cd A outer s0 H E hr0 ds r hR Q q => ?body)
  case hlen => exact fun ds d ⟨_, _, _, _, _, h, _⟩ => by rw [h]; rfl
  obtain ⟨m, rs, g, ho, hg, rfl, rfl⟩ := hR
  refine sd_expr ((pd_call (has_check_book Z) hr0 (ad_cons (pdv 0) ad_nil) ⟨_, _, rfl, rfl⟩)) ?_
  refine sd_expr ((pd_call (has_check_set Z) hr0 (ad_cons (pd_bkM Z.bk (pdv 0)) (ad_cons (pdv 1) ad_nil)) ⟨_, _, ?_, ?_, rfl, rfl⟩)) (sd_nil fun σ H1 e s => q .non H1 e rfl)
  · exact ho.m5
  · exact hg
noncomputable def enough (m : Nat) (rs : Rules) (g s : List Int) : Bool := within g (clo m rs s)
def R_is_enough (ds : List D) (d : D) : Prop := ∃ (m : Nat) (rs : Rules) (g s : List Int), OkR m rs ∧ OkS m g ∧ OkS m s ∧ ds = [bkD m rs, sD g, sD s] ∧ d = .b (enough m rs g s)
theorem has_is_enough (Z : Zk K mg) : Has P w K mg base 3 "is_enough" (spD T (He.ga K "Book") R_is_enough) := by
  have hN : (["book", "goal", "thing"] : List Str).Nodup := by decide +kernel
  refine has_D (N := ["book", "goal", "thing"]) (ps := ["book", "goal", "thing"]) (d := dF 31 "is_enough" "is_enough") (Z.d 18 rfl rfl rfl) (Z.glo 14 rfl) ⟨rfl, rfl, rfl, hN, rfl, by decide +kernel, by decide +kernel⟩ ?hlen (fun _ _ _ _ _ _ us hl => match us, hl with | [_, _, _], _ => rfl) (fun f cd A outer s0 H E hr0 ds r hR Q q => ?body)
  case hlen => exact fun ds d ⟨_, _, _, _, _, _, _, h, _⟩ => by rw [h]; rfl
  obtain ⟨m, rs, g, s, ho, hg, hs, rfl, rfl⟩ := hR
  refine sd_ret ((pd_call (has_is_within Z) hr0 (ad_cons (pdv 1) (ad_cons (pd_call (has_closure Z) hr0 (ad_cons (pd_bkR Z.bk (pdv 0)) (ad_cons (pdv 2) ad_nil)) ⟨_, _, _, ho, ?_, ?_, rfl, rfl⟩) ad_nil)) ⟨_, _, ?_, rfl, rfl⟩)) q
  · exact hs.rg
  · exact hs.l64 ho.m5
  · exact hg.sz ho.m5
def R_follows (ds : List D) (d : D) : Prop := ∃ (m : Nat) (rs : Rules) (r : List Int × List Int), OkR m rs ∧ OkS m r.1 ∧ OkS m r.2 ∧ ds = [bkD m rs, ruD r] ∧ d = .b (enough m rs r.2 r.1)
theorem has_follows (Z : Zk K mg) : Has P w K mg base 5 "follows" (spD T (He.ga K "Book") R_follows) := by
  have hN : (["book", "rule"] : List Str).Nodup := by decide +kernel
  refine has_D (N := ["book", "rule"]) (ps := ["book", "rule"]) (d := dF 45 "follows" "follows") (Z.d 31 rfl rfl rfl) (Z.glo 26 rfl) ⟨rfl, rfl, rfl, hN, rfl, by decide +kernel, by decide +kernel⟩ ?hlen (fun _ _ _ _ _ _ us hl => match us, hl with | [_, _], _ => rfl) (fun f cd A outer s0 H E hr0 ds r hR Q q => ?body)
  case hlen => exact fun ds d ⟨_, _, _, _, _, _, h, _⟩ => by rw [h]; rfl
  obtain ⟨m, rs, r, ho, h1, h2, rfl, rfl⟩ := hR
  refine sd_expr ((pd_call (has_check_rule Z) hr0 (ad_cons (pdv 0) (ad_cons (pdv 1) ad_nil)) ⟨_, _, _, ho, ?_, ?_, rfl, rfl⟩)) ?_
  · exact h1
  · exact h2
  refine sd_ret ((pd_call (has_is_within Z) hr0 (ad_cons (pd_ixT (pdv 1) pd_int ?_) (ad_cons (pd_call (has_closure Z) hr0 (ad_cons (pd_bkR Z.bk (pdv 0)) (ad_cons (pd_ixT (pdv 1) pd_int ?_) ad_nil)) ⟨_, _, _, ho, ?_, ?_, rfl, rfl⟩) ad_nil)) ⟨_, _, ?_, rfl, rfl⟩)) q
  · rfl
  · rfl
  · exact h1.rg
  · exact h1.l64 ho.m5
  · exact h2.sz ho.m5
end
end G30
set_option Elab.async false
set_option linter.all false
set_option maxRecDepth 100000
set_option maxHeartbeats 4000000
set_option autoImplicit false
namespace G30
open PySem PySem.Spec PyProof.Rows L2 LamX StX SlX
section
variable {P : Program} {w : World} {K : PySem.W.Frag} {mg : Str → Option Value} {base : Heap} {T : List (Addr × Str)}
abbrev setsOf (m : Nat) : List (List Int) := inOrder (subs m)
theorem mem_subs : ∀ m, ∀ s ∈ subs m, OkS m s
  | 0, s, h => by
    rw [List.mem_singleton.mp h]
    exact ⟨List.Pairwise.nil, fun x hx => by (cases hx), fun x hx => by (cases hx)⟩
  | k + 1, s, h => by
    rcases List.mem_append.mp h with h | h
    · have o := mem_subs k s h
      exact ⟨o.asc, o.lo, fun x hx => by have := o.hi x hx; omega⟩
    · obtain ⟨t, h1, rfl⟩ := List.mem_map.mp h
      have o := mem_subs k t h1
      refine ⟨List.pairwise_append.mpr ⟨o.asc, List.pairwise_singleton _ _, fun a ha b hb => ?_⟩, fun x hx => ?_, fun x hx => ?_⟩
      · rw [List.mem_singleton.mp hb]
        exact o.hi a ha
      · rcases List.mem_append.mp hx with hx | hx
        · exact o.lo x hx
        · rw [List.mem_singleton.mp hx]; omega
      · rcases List.mem_append.mp hx with hx | hx
        · have := o.hi x hx; omega
        · rw [List.mem_singleton.mp hx]; omega
theorem mem_setsOf {m : Nat} {s : List Int} (h : s ∈ setsOf m) : OkS m s := mem_subs m s ((List.mergeSort_perm _ _).mem_iff.mp h)
theorem len_setsOf (m : Nat) : (setsOf m).length = 2 ^ m := by
  unfold setsOf inOrder
  rw [List.length_mergeSort, subs_len]
theorem setsOf_sz {m : Nat} (h : m ≤ 5) : (setsOf m).length < sizeLine := by
  rw [len_setsOf]
  have := two_pow_le (Nat.le_refl m) h
  show 2 ^ m < 2 ^ 24
  omega
/-- how many of the sets of ss that f holds of have each size -/
def stepC (f : List Int → Bool) (acc : List Int) (s : List Int) : List Int := if f s = true then acc.set s.length (acc.getD s.length 0 + 1) else acc
def cntF (m : Nat) (f : List Int → Bool) (ss : List (List Int)) : List Int := ss.foldl (stepC f) (List.replicate (m + 1) 0)
theorem stepC_len (f : List Int → Bool) (acc s : List Int) : (stepC f acc s).length = acc.length := by
  unfold stepC
  split
  · rw [List.length_set]
  · rfl
theorem cntF_len (m : Nat) (f : List Int → Bool) : ∀ ss : List (List Int), (cntF m f ss).length = m + 1 := by
  have key : ∀ (ss : List (List Int)) (acc : List Int), (ss.foldl (stepC f) acc).length = acc.length := fun ss => by
    induction ss with
    | nil => intro acc; rfl
    | cons s ss ih =>
      intro acc
      rw [List.foldl_cons, ih, stepC_len]
  intro ss
  unfold cntF
  rw [key, List.length_replicate]
theorem cntF_snoc (m : Nat) (f : List Int → Bool) (ss : List (List Int)) (s : List Int) : cntF m f (ss ++ [s]) = stepC f (cntF m f ss) s := by
  unfold cntF
  rw [List.foldl_append]
  rfl
noncomputable def counts (m : Nat) (rs : Rules) (g : List Int) : List Int := cntF m (enough m rs g) (setsOf m)
def R_counts (ds : List D) (d : D) : Prop := ∃ (m : Nat) (rs : Rules) (g : List Int), OkR m rs ∧ OkS m g ∧ ds = [bkD m rs, sD g] ∧ d = sD (counts m rs g)
theorem ixN_nat {n j : Nat} (h : j < n) : ixN n (j : Int) = some j := by
  unfold ixN
  rw [if_pos (by omega), if_pos (by omega), Int.toNat_natCast]
theorem nw_not {H : Hp} {a : Addr} {xs : List V} (h : H a = some (.lst xs)) : ¬ Nw H a := fun z => by
  obtain ⟨ps, y⟩ := z _ h
  cases y
theorem has_counts (Z : Zk K mg) (TB : TbF K mg base) : Has P w K mg base 5 "counts" (spD (tabsT K) (He.ga K "Book") R_counts) := by
  have hN : (["book", "goal", "found", "one"] : List Str).Nodup := by decide +kernel
  refine has_D (N := ["book", "goal", "found", "one"]) (ps := ["book", "goal"]) (d := dF 32 "counts" "counts") (Z.d 19 rfl rfl rfl) (Z.glo 15 rfl) ⟨rfl, rfl, rfl, hN, rfl, by decide +kernel, by decide +kernel⟩ ?hlen (fun _ _ _ _ _ _ us hl => match us, hl with | [_, _], _ => rfl) (fun f cd A outer s0 H E hr0 ds r hR Q q => ?body)
  case hlen => exact fun ds d ⟨_, _, _, _, _, h, _⟩ => by rw [h]; rfl
  obtain ⟨m, rs, g, ho, hg, rfl, rfl⟩ := hR
  have h5 := ho.m5
  refine sd_expr ((pd_call (has_check_goal Z) hr0 (ad_cons (pdv 0) (ad_cons (pdv 1) ad_nil)) ⟨_, _, _, ho, hg, rfl, rfl⟩)) ?_
  refine sd_setL (i := 2) hN rfl (.inl rfl) (pl_rep0 (pd_add (pd_bkM Z.bk (pdv 0)) pd_int) ?_ ?_) ?_
  · omega
  · omega
  intro p vs H1 hn1 e1 hp hv
  have hp : H1 p = some (.lst ((List.replicate (m + 1) (0 : Int)).map V.int)) := by
    rw [hp, AtL.ints hv]
    congr 4
  refine sd_for (S := fun b => b = p) (setsOf m) sD (fun k H' => H' p = some (.lst ((cntF m (enough m rs g) ((setsOf m).take k)).map V.int)))
    (fun _ => [some (bkD m rs), some (sD g), some (.r p), none]) (fun _ s => [some (bkD m rs), some (sD g), some (.r p), some (sD s)]) PassesOwn.never rfl
    (id_list (pl_call (has_sets_of Z TB) hr0 (ad_cons (pd_bkM Z.bk (pdv 0)) ad_nil) ⟨_, ?_, rfl, rfl⟩) (fun b hb => by rw [hb]; exact nw_not hp)) (pg_name (i := 3) hN rfl (.inl rfl)) (fun k s _ => gd_name) (fun H2 e => Ex.lst e hp) (gle (by repeat' first | exact True.intro | exact rfl | refine And.intro ?_ ?_)) (fun k H2 H3 h e => Ex.lst e h) ?_ ?_
  · exact h5
  · rintro H2 e2 k s H' hs eb h1
    have hsm : s ∈ setsOf m := List.mem_of_getElem? hs
    have os := mem_setsOf hsm
    have tk : (setsOf m).take (k + 1) = (setsOf m).take k ++ [s] := by rw [List.take_add_one, hs]; rfl
    have ln := os.len
    have lc := cntF_len m (enough m rs g) ((setsOf m).take k)
    have gj : (cntF m (enough m rs g) ((setsOf m).take k))[s.length]? = some ((cntF m (enough m rs g) ((setsOf m).take k)).getD s.length 0) := by
      rw [List.getD_eq_getElem?_getD, List.getElem?_eq_getElem (by omega)]
      rfl
    refine sd_if (td_val (pd_call (has_is_enough Z) hr0 (ad_cons (pdv 0) (ad_cons (pdv 1) (ad_cons (pdv 3) ad_nil))) ⟨_, _, _, _, ho, ?_, ?_, rfl, rfl⟩)) (fun hw => ?_) (fun hw => ?_)
    · exact hg
    · exact os
    · refine sd_augI 2 h1 (pd_lenT Z.len (pdv 3)) pd_int (j := s.length) ?_ gj ?_
      · rw [List.length_map, lc]
        exact ixN_nat (by omega)
      intro H3 e3 h3
      refine sd_nil fun σ H4 e4 s4 => wS_nil ⟨(eb.trans e3).trans (Ex.to e4), s4.gle (gle (by repeat' first | exact True.intro | exact rfl | refine And.intro ?_ ?_)), ?_⟩
      show H4 p = some (.lst ((cntF m (enough m rs g) ((setsOf m).take (k + 1))).map V.int))
      rw [Ex.lst e4 h3, tk, cntF_snoc]
      congr 3
      exact (if_pos hw).symm
    · refine sd_nil fun σ H4 e4 s4 => wS_nil ⟨eb.trans (Ex.to e4), s4.gle (gle (by repeat' first | exact True.intro | exact rfl | refine And.intro ?_ ?_)), ?_⟩
      show H4 p = some (.lst ((cntF m (enough m rs g) ((setsOf m).take (k + 1))).map V.int))
      rw [Ex.lst e4 h1, tk, cntF_snoc]
      congr 3
      exact (if_neg (by rw [hw]; exact Bool.false_ne_true)).symm
  · intro H2 eb h1
    rw [List.take_length] at h1
    exact sd_ret (pd_tupleL Z.tuple_ (prv 2 (SqL.of h1) (AtL.of_ints _))) fun v H3 e3 a3 => q v H3 (((Ex.to e1).trans (eb.trans (Ex.to e3))).drop fun b hb => by rw [hb]; exact hn1) a3
end
end G30
set_option Elab.async false
set_option linter.all false
set_option maxRecDepth 100000
set_option maxHeartbeats 4000000
set_option autoImplicit false
namespace G30
open PySem PySem.Spec PyProof.Rows L2 LamX StX SlX
section
variable {P : Program} {w : World} {K : PySem.W.Frag} {mg : Str → Option Value} {base : Heap} {T : List (Addr × Str)}
theorem pd_ite {X : Cx} {T : List (Addr × Str)} {B : Addr} {Γ : List (Option D)} {H : Hp} {c a b : Expr} {pos : Pos} {k : Bool} {x y : Int} (h : TD X T B c Γ H k) (h1 : PD X T B a Γ H (.i x)) (h2 : PD X T B b Γ H (.i y)) : PD X T B (.IfExp c a b pos) Γ H (.i (if k = true then x else y)) :=
  pd_if h (fun z => h1.is (by rw [if_pos z])) (fun z => h2.is (by rw [if_neg (by rw [z]; exact Bool.false_ne_true)]))
theorem rg_mks (m : Nat) : rgD 0 (m : Int).toNat = (mks m).map D.i := by rw [Int.toNat_natCast, rgD_mks]
noncomputable def swingB (m : Nat) (rs : Rules) (g : List Int) (k : Int) (s : List Int) : Bool := !decide (k ∈ s) && (!enough m rs g s && enough m rs g (nrm m (s ++ [k])))
noncomputable def swingsOf (m : Nat) (rs : Rules) (g : List Int) (k : Int) : List (List Int) := (setsOf m).filter (swingB m rs g k)
def R_swings_of (ds es : List D) : Prop := ∃ (m : Nat) (rs : Rules) (g : List Int) (k : Int), OkR m rs ∧ OkS m g ∧ 0 ≤ k ∧ k < m ∧ ds = [bkD m rs, sD g, .i k] ∧ es = (swingsOf m rs g k).map sD
theorem has_swings_of (Z : Zk K mg) (TB : TbF K mg base) : Has P w K mg base 5 "swings_of" (spL (tabsT K) (He.ga K "Book") R_swings_of) := by
  have hN : (["book", "goal", "mark", "found", "one"] : List Str).Nodup := by decide +kernel
  refine has_L (N := ["book", "goal", "mark", "found", "one"]) (ps := ["book", "goal", "mark"]) (d := dF 36 "swings_of" "swings_of") (Z.d 23 rfl rfl rfl) (Z.glo 18 rfl) ⟨rfl, rfl, rfl, hN, rfl, by decide +kernel, by decide +kernel⟩ ?hlen (fun _ _ _ _ _ _ us hl => match us, hl with | [_, _, _], _ => rfl) (fun f cd A outer s0 H E hr0 ds r hR Q q => ?body)
  case hlen => exact fun ds d ⟨_, _, _, _, _, _, _, _, h, _⟩ => by rw [h]; rfl
  obtain ⟨m, rs, g, mk, ho, hg, hk0, hk1, rfl, rfl⟩ := hR
  have h5 := ho.m5
  refine sd_setL (i := 3) hN rfl (.inl rfl) (pl_lst ad_nil ?_) ?_
  · exact Nat.zero_le _
  intro p vs H1 hn1 e1 hp hv
  refine sd_for (S := fun b => b = p) (setsOf m) sD (fun j H' => ∃ vs, H' p = some (.lst vs) ∧ AtL (He.ga K "Book") H' ((((setsOf m).take j).filter (swingB m rs g mk)).map sD) vs)
    (fun _ => [some (bkD m rs), some (sD g), some (.i mk), some (.r p), none]) (fun _ s => [some (bkD m rs), some (sD g), some (.i mk), some (.r p), some (sD s)]) PassesOwn.never rfl
    (id_list (pl_call (has_sets_of Z TB) hr0 (ad_cons (pd_bkM Z.bk (pdv 0)) ad_nil) ⟨_, ?_, rfl, rfl⟩) (fun b hb => by rw [hb]; exact nw_not hp)) (pg_name (i := 4) hN rfl (.inl rfl)) (fun k s _ => gd_name) (fun H2 e => ⟨vs, Ex.lst e hp, hv.mono e⟩) (gle (by repeat' first | exact True.intro | exact rfl | refine And.intro ?_ ?_)) (fun k H2 H3 ⟨vs, h, a⟩ e => ⟨vs, Ex.lst e h, a.mono e⟩) ?_ ?_
  · exact h5
  · rintro H2 e2 k s H' hs eb ⟨vs2, h1, a1⟩
    have hsm : s ∈ setsOf m := List.mem_of_getElem? hs
    have os := mem_setsOf hsm
    have tk : (setsOf m).take (k + 1) = (setsOf m).take k ++ [s] := by rw [List.take_add_one, hs]; rfl
    refine sd_if (l := swingB m rs g mk s) (WD.t (wd_and (td_notin (pdv 2) (pdv 4)) (fun _ => (wd_and (td_not (td_val (pd_call (has_is_enough Z) hr0 (ad_cons (pdv 0) (ad_cons (pdv 1) (ad_cons (pdv 4) ad_nil))) ⟨_, _, _, _, ho, ?_, ?_, rfl, rfl⟩))) (fun _ => (wd_and1 (td_val (pd_call (has_is_enough Z) hr0 (ad_cons (pdv 0) (ad_cons (pdv 1) (ad_cons (pd_call (has_joined Z) hr0 (ad_cons (pdv 4) (ad_cons (pd_tup (ad_cons (pdv 2) ad_nil) ?_) ad_nil)) ⟨m, _, [mk], ?_, ?_, rfl, rfl⟩) ad_nil))) ⟨_, _, _, _, ho, ?_, ?_, rfl, rfl⟩)))))))) (fun hw => ?_) (fun hw => ?_)
    · exact hg
    · exact os
    · show 1 ≤ 2 ^ 24; decide
    · intro x hx
      rcases List.mem_append.mp hx with hx | hx
      · exact os.rg x hx
      · rw [List.mem_singleton.mp hx]; exact ⟨hk0, hk1⟩
    · have := os.len
      rw [List.length_append, List.length_singleton]
      omega
    · exact hg
    · exact nrm_ok m _
    · refine sd_append (pdv 3) (pdv 4) h1 ?_ ?_
      · have l1 := a1.len
        rw [List.length_map] at l1
        have l2 := List.length_filter_le (swingB m rs g mk) ((setsOf m).take k)
        rw [List.length_take] at l2
        have l3 := setsOf_sz h5
        omega
      intro H3 v e3 at3 h3
      refine sd_nil fun σ H4 e4 s4 => wS_nil ⟨(eb.trans e3).trans (Ex.to e4), s4.gle (gle (by repeat' first | exact True.intro | exact rfl | refine And.intro ?_ ?_)), _, Ex.lst e4 h3, ?_⟩
      rw [tk, List.filter_append, List.map_append]
      refine AtL.app ((a1.mono e3).mono e4) ?_
      rw [List.filter_cons, if_pos hw, List.filter_nil]
      exact AtL.one (at3.mono e4)
    · refine sd_nil fun σ H4 e4 s4 => wS_nil ⟨eb.trans (Ex.to e4), s4.gle (gle (by repeat' first | exact True.intro | exact rfl | refine And.intro ?_ ?_)), _, Ex.lst e4 h1, ?_⟩
      rw [tk, List.filter_append, List.map_append]
      rw [List.filter_cons, if_neg (by rw [hw]; exact Bool.false_ne_true), List.filter_nil, List.map_nil, List.append_nil]
      exact a1.mono e4
  · rintro H2 eb ⟨vs2, h1, a1⟩
    rw [List.take_length] at a1
    refine sd_ret (pdv 3) fun v H3 e3 a3 => ?_
    have a3 : v = .ref p := a3
    subst a3
    exact q p vs2 H3 hn1 (((Ex.to e1).trans (eb.trans (Ex.to e3))).drop fun b hb => by rw [hb]; exact hn1) (Ex.lst e3 h1) (a1.mono e3)
noncomputable def swings (m : Nat) (rs : Rules) (g : List Int) : List Int := (mks m).map fun k => ((swingsOf m rs g k).length : Int)
def R_swings (ds : List D) (d : D) : Prop := ∃ (m : Nat) (rs : Rules) (g : List Int), OkR m rs ∧ OkS m g ∧ ds = [bkD m rs, sD g] ∧ d = sD (swings m rs g)
theorem has_swings (Z : Zk K mg) (TB : TbF K mg base) : Has P w K mg base 6 "swings" (spD (tabsT K) (He.ga K "Book") R_swings) := by
  have hN : (["book", "goal", "mark"] : List Str).Nodup := by decide +kernel
  refine has_D (N := ["book", "goal", "mark"]) (ps := ["book", "goal"]) (d := dF 37 "swings" "swings") (Z.d 24 rfl rfl rfl) (Z.glo 19 rfl) ⟨rfl, rfl, rfl, hN, rfl, by decide +kernel, by decide +kernel⟩ ?hlen (fun _ _ _ _ _ _ us hl => match us, hl with | [_, _], _ => rfl) (fun f cd A outer s0 H E hr0 ds r hR Q q => ?body)
  case hlen => exact fun ds d ⟨_, _, _, _, _, h, _⟩ => by rw [h]; rfl
  obtain ⟨m, rs, g, ho, hg, rfl, rfl⟩ := hR
  have h5 := ho.m5
  refine sd_expr ((pd_call (has_check_goal Z) hr0 (ad_cons (pdv 0) (ad_cons (pdv 1) ad_nil)) ⟨_, _, _, ho, hg, rfl, rfl⟩)) ?_
  refine sd_ret (PD.is (pd_tupleL Z.tuple_ (PL.r (pl_lc (own := [("mark", 2)]) (is := [2]) (mks m) (D.i) _ _ rfl hN (ID.is (id_range1 Z.range (pd_bkM Z.bk (pdv 0)) ?_) (rg_mks m)) (blk_ok (by kernel_rfl)) (fun _ _ _ _ _ => pg_name (i := 2) hN rfl (by first | exact .inl rfl | exact .inr rfl)) (fun a ha => (gd_name)) (by decide) (fun a ha s0 H0 C cl fp => (pd_lenL Z.len (PL.r (pl_call (has_swings_of Z TB) hr0 (ad_cons (pdv 0) (ad_cons (pdv 1) (ad_cons (pdv 2) ad_nil))) ⟨_, _, _, _, ho, hg, ?_, ?_, rfl, rfl⟩)))) ?_))) ?_) q
  · omega
  · exact (mem_mks.mp ha).1
  · exact (mem_mks.mp ha).2
  · have := (mks_ok m).len
    show (mks m).length < 2 ^ 24
    omega
  · show D.t _ = D.t (((mks m).map fun k => ((swingsOf m rs g k).length : Int)).map D.i)
    rw [List.map_map]
    congr 1
    exact List.map_congr_left fun k _ => by show D.i _ = D.i _; rw [List.length_map]
end
end G30
set_option Elab.async false
set_option linter.all false
set_option maxRecDepth 100000
set_option maxHeartbeats 4000000
set_option autoImplicit false
namespace G30
open PySem PySem.Spec PyProof.Rows L2 LamX StX SlX
section
variable {P : Program} {w : World} {K : PySem.W.Frag} {mg : Str → Option Value} {base : Heap} {T : List (Addr × Str)}
/-! ### product_of, lowest -/
def prodI (ns : List Int) : Int := ns.foldl (· * ·) 1
theorem prodI_snoc (ns : List Int) (n : Int) : prodI (ns ++ [n]) = prodI ns * n := by
  unfold prodI
  rw [List.foldl_append]
  rfl
/-- a promise that reads the heap: a list of ints -/
def R_product_of (K : PySem.W.Frag) (H : Hp) (ds : List D) (d : D) : Prop := ∃ (p : Addr) (ns : List Int), SqL K H p (ns.map V.int) ∧ (∀ k, k ≤ ns.length → -(2 ^ 64) < prodI (ns.take k) ∧ prodI (ns.take k) < 2 ^ 64) ∧ ds = [.r p] ∧ d = .i (prodI ns)
theorem has_product_of (Z : Zk K mg) : Has P w K mg base 1 "product_of" (spDH T (He.ga K "Book") (R_product_of K)) := by
  have hN : (["numbers", "found", "number"] : List Str).Nodup := by decide +kernel
  refine has_DH (N := ["numbers", "found", "number"]) (ps := ["numbers"]) (d := dF 38 "product_of" "product_of") (Z.d 25 rfl rfl rfl) (Z.glo 20 rfl) ⟨rfl, rfl, rfl, hN, rfl, by decide +kernel, by decide +kernel⟩ ?hlen (fun _ _ _ _ _ _ us hl => match us, hl with | [_], _ => rfl) (fun f cd A outer s0 H E hr0 ds r hR Q q => ?body)
  case hlen => exact fun H ds d ⟨_, _, _, _, h, _⟩ => by rw [h]; rfl
  obtain ⟨p, ns, hp, hb, rfl, rfl⟩ := hR
  refine sd_set (i := 1) hN rfl (.inl rfl) pd_int ?_
  refine sd_for (S := Nob) ns D.i (fun _ _ => True) (fun k => [some (.r p), some (.i (prodI (ns.take k))), none]) (fun k n => [some (.r p), some (.i (prodI (ns.take k))), some (.i n)]) PassesOwn.never rfl
    (id_listR (prv 0 hp (AtL.of_ints ns))) (pg_name (i := 2) hN rfl (.inl rfl)) (fun k s _ => gd_name) (fun _ _ => True.intro) (by rw [List.take_zero]; exact (gle (by repeat' first | exact True.intro | exact rfl | refine And.intro ?_ ?_))) (fun _ _ _ _ _ => True.intro) ?_ ?_
  · rintro H2 e2 k n H' hn eb _
    have hk : k < ns.length := (List.getElem?_eq_some_iff.mp hn).1
    have tk : ns.take (k + 1) = ns.take k ++ [n] := by rw [List.take_add_one, hn]; rfl
    refine sd_set (i := 1) hN rfl (.inl rfl) (pd_mul (pdv 1) (pdv 2) ?_) ?_
    · exact .inl (hb k (Nat.le_of_lt hk))
    refine sd_nil fun σ H4 e4 s4 => ⟨eb.trans e4, ?_, True.intro⟩
    show Sl T (He.ga K "Book") H4 σ [some (.r p), some (.i (prodI (ns.take (k + 1)))), none]
    rw [tk, prodI_snoc]
    exact s4.gle (gle (by repeat' first | exact True.intro | exact rfl | refine And.intro ?_ ?_))
  · intro H' eb _
    rw [List.take_length]
    exact sd_ret (pdv 1) fun v H3 e3 a3 => q v H3 (eb.trans e3) a3
/-- over and under, by their greatest common divisor -/
def R_lowest (ds : List D) (d : D) : Prop := ∃ a b : Int, 0 ≤ a ∧ 0 < b ∧ b < 1000000000 ∧ ds = [.i a, .i b] ∧ d = .t [.i (a / (Int.gcd a b : Int)), .i (b / (Int.gcd a b : Int))]
theorem gcd_step (x y : Int) (hx : 0 ≤ x) (hy : 0 < y) : Int.gcd y (x % y) = Int.gcd x y := by
  obtain ⟨a, rfl⟩ := Int.eq_ofNat_of_zero_le hx
  obtain ⟨b, rfl⟩ := Int.eq_ofNat_of_zero_le (Int.le_of_lt hy)
  have e : ((a : Int) % (b : Int)) = ((a % b : Nat) : Int) := rfl
  rw [e]
  show Nat.gcd b (a % b) = Nat.gcd a b
  rw [Nat.gcd_comm a b, Nat.gcd_comm b (a % b)]
  exact (Nat.gcd_rec b a).symm
theorem has_lowest (Z : Zk K mg) : Has P w K mg base 1 "lowest" (spD T (He.ga K "Book") R_lowest) := by
  have hN : (["over", "under", "one", "other"] : List Str).Nodup := by decide +kernel
  refine has_D (N := ["over", "under", "one", "other"]) (ps := ["over", "under"]) (d := dF 39 "lowest" "lowest") (Z.d 26 rfl rfl rfl) (Z.glo 21 rfl) ⟨rfl, rfl, rfl, hN, rfl, by decide +kernel, by decide +kernel⟩ ?hlen (fun _ _ _ _ _ _ us hl => match us, hl with | [_, _], _ => rfl) (fun f cd A outer s0 H E hr0 ds r hR Q q => ?body)
  case hlen => exact fun ds d ⟨_, _, _, _, _, h, _⟩ => by rw [h]; rfl
  obtain ⟨a, b, ha, hb, hb2, rfl, rfl⟩ := hR
  refine sd_par (i := 2) (j := 3) rfl hN rfl rfl (by decide) rfl rfl (ad_cons (pdv 0) (ad_cons (pdv 1) ad_nil)) rfl ?_
  refine sd_while (S := Nob) (α := Int × Int) (fun st _ => 0 ≤ st.1 ∧ 0 ≤ st.2 ∧ Int.gcd st.1 st.2 = Int.gcd a b) (fun st => [some (.i a), some (.i b), some (.i st.1), some (.i st.2)]) (fun st => st.2.toNat) (fun st => !decide (st.2 = 0)) (a, b)
    PassesOwn.never (fun st H1 H2 h e => h) (fun st H' _ _ => (td_neI (pdv 3) pd_int)) ⟨ha, Int.le_of_lt hb, rfl⟩ (gle (by repeat' first | exact True.intro | exact rfl | refine And.intro ?_ ?_)) ?_ ?_
  · rintro H2 e2 st H' ht eb ⟨h1, h2, h3⟩
    have hne : ¬ st.2 = 0 := of_decide_eq_false (by simpa using ht)
    have hpos : 0 < st.2 := by omega
    refine sd_par (i := 2) (j := 3) rfl hN rfl rfl (by decide) rfl rfl (ad_cons (pdv 3) (ad_cons (pd_mod (pdv 2) (pdv 3) hpos) ad_nil)) rfl ?_
    refine sd_nil fun σ H4 e4 s4 => ⟨(st.2, st.1 % st.2), ?_, eb.trans e4, s4.gle (gle (by repeat' first | exact True.intro | exact rfl | refine And.intro ?_ ?_)), Int.le_of_lt hpos, Int.emod_nonneg _ hne, ?_⟩
    · have := Int.emod_lt_of_pos st.1 hpos
      have := Int.emod_nonneg st.1 hne
      show (st.1 % st.2).toNat < st.2.toNat
      omega
    · rw [← h3]
      exact gcd_step _ _ h1 hpos
  · rintro st H' ht eb ⟨h1, h2, h3⟩
    have h0 : st.2 = 0 := by simpa using ht
    rw [h0, Int.gcd_zero_right] at h3
    have hg : st.1 = (Int.gcd a b : Int) := by omega
    have gp : 0 < Int.gcd a b := Int.gcd_pos_of_ne_zero_right _ (by omega)
    have gle1 : (Int.gcd a b : Int) ≤ b := Int.le_of_dvd hb (Int.gcd_dvd_right _ _)
    have hd : ∀ z : Int, 0 ≤ z → z.fdiv st.1 = z / (Int.gcd a b : Int) := fun z hz => by rw [hg]; exact Int.fdiv_eq_ediv_of_nonneg _ (by omega)
    refine sd_ret (PD.is (pd_tup (ad_cons (pd_fdiv (pdv 0) (pdv 2) ?_) (ad_cons (pd_fdiv (pdv 1) (pdv 2) ?_) ad_nil)) ?_) (by rw [hd a ha, hd b (Int.le_of_lt hb)])) fun v H3 e3 a3 => q v H3 (eb.trans e3) a3
    · constructor <;> omega
    · constructor <;> omega
    · show 2 ≤ 2 ^ 24; decide
end
end G30
set_option Elab.async false
set_option linter.all false
set_option maxRecDepth 100000
set_option maxHeartbeats 4000000
set_option autoImplicit false
namespace G30
open PySem PySem.Spec PyProof.Rows L2 LamX StX SlX
section
variable {P : Program} {w : World} {K : PySem.W.Frag} {mg : Str → Option Value} {base : Heap} {T : List (Addr × Str)}
theorem pd_callL {X : Cx} {B : Addr} {Γ : List (Option D)} {H : Hp} {d : D} {ds : List D} {e : Expr} {p pos : Pos} {j k : Nat} {x : Str} {R : Hp → List D → D → Prop} (F : Has X.prog X.w X.K X.mg X.base j x (spDH T B R)) (hr : Room k X.A) (ha : PR X T B e Γ H ds) (hR : ∀ H1 p vs, Ex T H H1 → SqL X.K H1 p vs → AtL B H1 ds vs → R H1 [.r p] d) (hjk : j ≤ k := by decide) (hg : Gl X x := by rfl) (hd : (x == ("__debug__" : Str)) = false := by decide)
    (he : starEach [e] X.env = (false, eval e X.env) :: starEach [] X.env := by rfl) (hpl : (backTo pos (starEach [] X.env)).any (·.1) = false := by rfl) : PD X T B (.Call (.Name x p) [e] [] pos) Γ H d := fun σ H1 x1 s Q q => by
  obtain ⟨f, hm, hk, F⟩ := F
  exact PE.w (pe_callR F (hr.mono hjk) hk hg hm pass0 (pa_cons (peS X e) pa_nil he) hd he hpl) (ha σ H1 x1 s _ fun p vs H2 e2 hp hv => ⟨[.r p], d, ⟨_, [], rfl, rfl, rfl⟩, e2.tabs s.tabs, hR H2 p vs (x1.trans e2) hp hv, fun v H' e3 at3 => q v H' (e2.trans e3) at3⟩)
/-- 1, 2, .., n -/
def upTo (n : Nat) : List Int := (List.range n).map fun (k : Nat) => 1 + (k : Int)
def fact (n : Nat) : Int := prodI (upTo n)
theorem rg_upTo (n : Nat) : rgD 1 n = (upTo n).map D.i := by
  unfold rgD upTo
  rw [List.map_map]
  rfl
theorem fact_bd : ∀ n : Fin 6, ∀ k : Fin 6, -(2 ^ 64) < prodI ((upTo n.1).take k.1) ∧ prodI ((upTo n.1).take k.1) < 2 ^ 64 := by decide +kernel
theorem fact_pos : ∀ n : Fin 6, 0 < fact n.1 ∧ fact n.1 < 1000 := by decide +kernel
theorem upTo_len (n : Nat) : (upTo n).length = n := by
  unfold upTo
  rw [List.length_map, List.length_range]
theorem r_fact {K : PySem.W.Frag} {B : Addr} {H : Hp} {p : Addr} {vs : List V} {n : Nat} (hn : n ≤ 5) (hp : SqL K H p vs) (hv : AtL B H (rgD 1 n) vs) : R_product_of K H [.r p] (.i (fact n)) := by
  rw [rg_upTo] at hv
  rw [AtL.ints hv] at hp
  exact ⟨p, upTo n, hp, fun k hk => by rw [upTo_len] at hk; exact fact_bd ⟨n, by omega⟩ ⟨k, by omega⟩, rfl, rfl⟩
def wgt (m : Nat) (s : List Int) : Int := fact s.length * fact (m - s.length - 1)
def totF (m : Nat) (ss : List (List Int)) : Int := ss.foldl (fun acc s => acc + wgt m s) 0
theorem totF_snoc (m : Nat) (ss : List (List Int)) (s : List Int) : totF m (ss ++ [s]) = totF m ss + wgt m s := by
  unfold totF
  rw [List.foldl_append]
  rfl
theorem totF_nn {m : Nat} (hm : m ≤ 5) : ∀ ss : List (List Int), (∀ s ∈ ss, s.length ≤ 5) → 0 ≤ totF m ss := fun ss => by
  refine snoc_ind (motive := fun ss => (∀ s ∈ ss, s.length ≤ 5) → 0 ≤ totF m ss) (fun _ => Int.le_refl _) (fun ss s ih h => ?_) ss
  rw [totF_snoc]
  have h1 := ih fun t ht => h t (List.mem_append_left _ ht)
  have h2 := h s (List.mem_append_right _ (List.mem_singleton.mpr rfl))
  have f1 := fact_pos ⟨s.length, by omega⟩
  have f2 := fact_pos ⟨m - s.length - 1, by omega⟩
  have : 0 < wgt m s := Int.mul_pos f1.1 f2.1
  omega
noncomputable def shareP (m : Nat) (rs : Rules) (g : List Int) (k : Int) : Int × Int := (totF m (swingsOf m rs g k) / (Int.gcd (totF m (swingsOf m rs g k)) (fact m) : Int), fact m / (Int.gcd (totF m (swingsOf m rs g k)) (fact m) : Int))
noncomputable def shares (m : Nat) (rs : Rules) (g : List Int) : List (Int × Int) := (mks m).map (shareP m rs g)
abbrev prD (z : Int × Int) : D := .t [.i z.1, .i z.2]
def R_shares (ds : List D) (d : D) : Prop := ∃ (m : Nat) (rs : Rules) (g : List Int), OkR m rs ∧ OkS m g ∧ ds = [bkD m rs, sD g] ∧ d = .t ((shares m rs g).map prD)
theorem has_shares (Z : Zk K mg) (TB : TbF K mg base) : Has P w K mg base 6 "shares" (spD (tabsT K) (He.ga K "Book") R_shares) := by
  have hN : (["book", "goal", "orders", "found", "mark", "total", "one", "behind"] : List Str).Nodup := by decide +kernel
  refine has_D (N := ["book", "goal", "orders", "found", "mark", "total", "one", "behind"]) (ps := ["book", "goal"]) (d := dF 40 "shares" "shares") (Z.d 27 rfl rfl rfl) (Z.glo 22 rfl) ⟨rfl, rfl, rfl, hN, rfl, by decide +kernel, by decide +kernel⟩ ?hlen (fun _ _ _ _ _ _ us hl => match us, hl with | [_, _], _ => rfl) (fun f cd A outer s0 H E hr0 ds r hR Q q => ?body)
  case hlen => exact fun ds d ⟨_, _, _, _, _, h, _⟩ => by rw [h]; rfl
  obtain ⟨m, rs, g, ho, hg, rfl, rfl⟩ := hR
  have h5 := ho.m5
  have hml : (mks m).length = m := by unfold mks; rw [List.length_map, List.length_range]
  refine sd_expr ((pd_call (has_check_goal Z) hr0 (ad_cons (pdv 0) (ad_cons (pdv 1) ad_nil)) ⟨_, _, _, ho, hg, rfl, rfl⟩)) ?_
  refine sd_parL (i := 2) (j := 3) rfl hN rfl rfl (by decide) rfl rfl (pd_callL (has_product_of Z) hr0 (PL.r (pl_listRg2 rfl Z.list_ Z.range pd_int (pd_add (pd_bkM Z.bk (pdv 0)) pd_int) ?_)) (d := .i (fact m)) fun H1 p vs e hp hv => ?_) (pl_lst ad_nil ?_) rfl ?_
  · omega
  · rw [show ((m : Int) + 1 - 1).toNat = m by omega] at hv
    exact r_fact h5 hp hv
  · exact Nat.zero_le _
  intro p vs H1 hn1 e1 hp hv
  refine sd_for (S := fun b => b = p) (mks m) D.i (fun j H' => ∃ vs, H' p = some (.lst vs) ∧ AtL (He.ga K "Book") H' ((((mks m).take j).map (shareP m rs g)).map prD) vs)
    (fun _ => [some (bkD m rs), some (sD g), some (.i (fact m)), some (.r p), none, none, none, none]) (fun _ k => [some (bkD m rs), some (sD g), some (.i (fact m)), some (.r p), some (.i k), none, none, none]) PassesOwn.never rfl
    (ID.is (id_range1 Z.range (pd_bkM Z.bk (pdv 0)) ?_) (rg_mks m)) (pg_name (i := 4) hN rfl (.inl rfl)) (fun k s _ => gd_name) (fun H2 e => ⟨vs, Ex.lst e hp, hv.mono e⟩) (gle (by repeat' first | exact True.intro | exact rfl | refine And.intro ?_ ?_)) (fun k H2 H3 ⟨vs, h, a⟩ e => ⟨vs, Ex.lst e h, a.mono e⟩) ?_ ?_
  · omega
  · rintro H2 e2 j mk H' hmk eb ⟨vs2, h1, a1⟩
    have hkm : mk ∈ mks m := List.mem_of_getElem? hmk
    have hk0 := (mem_mks.mp hkm).1
    have hk1 := (mem_mks.mp hkm).2
    have hj : j < m := by
      have := (List.getElem?_eq_some_iff.mp hmk).1
      omega
    have tk : (mks m).take (j + 1) = (mks m).take j ++ [mk] := by rw [List.take_add_one, hmk]; rfl
    have sw : ∀ s ∈ swingsOf m rs g mk, OkS m s := fun s hs => mem_setsOf (List.mem_filter.mp hs).1
    refine sd_set (i := 5) hN rfl (.inl rfl) pd_int ?_
    refine sd_for (S := Nob) (swingsOf m rs g mk) sD (fun _ _ => True) (fun i => [some (bkD m rs), some (sD g), some (.i (fact m)), some (.r p), some (.i mk), some (.i (totF m ((swingsOf m rs g mk).take i))), none, none])
      (fun i s => [some (bkD m rs), some (sD g), some (.i (fact m)), some (.r p), some (.i mk), some (.i (totF m ((swingsOf m rs g mk).take i))), some (sD s), none]) PassesOwn.never rfl (id_listR (PL.r (pl_call (has_swings_of Z TB) hr0 (ad_cons (pdv 0) (ad_cons (pdv 1) (ad_cons (pdv 4) ad_nil))) ⟨_, _, _, _, ho, hg, ?_, ?_, rfl, rfl⟩)))
      (pg_name (i := 6) hN rfl (.inl rfl)) (fun k s _ => gd_name) (fun _ _ => True.intro) (by rw [List.take_zero]; exact (gle (by repeat' first | exact True.intro | exact rfl | refine And.intro ?_ ?_))) (fun _ _ _ _ _ => True.intro) ?_ ?_
    · exact hk0
    · exact hk1
    · rintro H3 e3 i s H4 hs eb4 _
      have hsm : s ∈ swingsOf m rs g mk := List.mem_of_getElem? hs
      have os := sw s hsm
      have ln := os.len
      -- the mark swings, so s is not the whole
      have tk2 : (swingsOf m rs g mk).take (i + 1) = (swingsOf m rs g mk).take i ++ [s] := by rw [List.take_add_one, hs]; rfl
      have sl : ((s.map D.i).length : Int) = (s.length : Int) := by rw [List.length_map]
      refine sd_setL (i := 7) hN rfl (.inl rfl) (pl_listRg2 rfl Z.list_ Z.range pd_int (pd_sub (pd_bkM Z.bk (pdv 0)) (pd_lenT Z.len (pdv 6))) ?_) ?_
      · rw [List.length_map]; omega
      intro pb vb H5 hn5 e5 hpb hvb
      have hvb2 : AtL (He.ga K "Book") H5 (rgD 1 (m - s.length - 1)) vb := by
        have z : ((m : Int) - ((s.map D.i).length : Int) - 1).toNat = m - s.length - 1 := by rw [sl]; omega
        rw [z] at hvb
        exact hvb
      have f1 := fact_pos ⟨s.length, by omega⟩
      have f2 := fact_pos ⟨m - s.length - 1, by omega⟩
      refine sd_aug (i := 5) hN rfl (.inl rfl) rfl (pd_mul (m := fact s.length) (n := fact (m - s.length - 1)) (pd_callL (has_product_of Z) hr0 (PL.r (pl_listRg2 rfl Z.list_ Z.range pd_int (pd_add (pd_lenT Z.len (pdv 6)) pd_int) ?_)) fun H1 p vs e hp hv => ?_) (pd_callH (has_product_of Z) hr0 (ad_cons (pdv 7) ad_nil) fun H1 e => ?_) ?_) ?_
      · rw [List.length_map]; omega
      · have z : (((s.map D.i).length : Int) + 1 - 1).toNat = s.length := by rw [sl]; omega
        rw [z] at hv
        exact r_fact (by omega) hp hv
      · exact r_fact (by omega) (SqL.of (Ex.lst e hpb)) (hvb2.mono e)
      · have g1 := f1.1
        have g2 := f1.2
        exact .inl ⟨by show _ < fact s.length; have : (0 : Int) < fact s.length := g1; omega, by have : fact s.length < 1000 := g2; show fact s.length < 2 ^ 64; omega⟩
      · refine sd_nil fun σ H6 e6 s6 => ⟨eb4.trans (e5.trans e6), ?_, True.intro⟩
        show Sl (tabsT K) (He.ga K "Book") H6 σ [some (bkD m rs), some (sD g), some (.i (fact m)), some (.r p), some (.i mk), some (.i (totF m ((swingsOf m rs g mk).take (i + 1)))), none, none]
        rw [tk2, totF_snoc]
        exact s6.gle (gle (by repeat' first | exact True.intro | exact rfl | refine And.intro ?_ ?_))
    · intro H3 eb3 _
      rw [List.take_length]
      have fm := fact_pos ⟨m, by omega⟩
      refine sd_append (pdv 3) (pd_call (has_lowest Z) hr0 (ad_cons (pdv 5) (ad_cons (pdv 2) ad_nil)) ⟨totF m (swingsOf m rs g mk), fact m, totF_nn h5 _ fun s hs => by have := (sw s hs).len; omega, fm.1, by have : fact m < 1000 := fm.2; omega, rfl, rfl⟩) (Ex.lst eb3 h1) ?_ ?_
      · have l1 := a1.len
        rw [List.length_map, List.length_map, List.length_take] at l1
        show vs2.length < 2 ^ 24
        omega
      intro H4 v e4 at4 h4
      refine sd_nil fun σ H5 e5 s5 => ⟨(eb.trans ((Ex.to eb3).trans e4)).trans (Ex.to e5), s5.gle (gle (by repeat' first | exact True.intro | exact rfl | refine And.intro ?_ ?_)), _, Ex.lst e5 h4, ?_⟩
      rw [tk, List.map_append, List.map_append]
      refine AtL.app (((a1.mono eb3).mono e4).mono e5) ?_
      exact AtL.one (at4.mono e5)
  · rintro H2 eb ⟨vs2, h1, a1⟩
    rw [List.take_length] at a1
    exact sd_ret (pd_tupleL Z.tuple_ (prv 3 (SqL.of h1) a1)) fun v H3 e3 a3 => q v H3 (((Ex.to e1).trans (eb.trans (Ex.to e3))).drop fun b hb => by rw [hb]; exact hn1) a3
end
end G30
set_option Elab.async false
set_option linter.all false
set_option maxRecDepth 100000
set_option maxHeartbeats 4000000
set_option autoImplicit false
namespace G30
open PySem PySem.Spec PyProof.Rows L2 LamX StX SlX
section
variable {P : Program} {w : World} {K : PySem.W.Frag} {mg : Str → Option Value} {base : Heap} {T : List (Addr × Str)}
theorem pd_chain_w {X : Cx} {T : List (Addr × Str)} {B : Addr} {Γ : List (Option D)} {H : Hp} {d1 d2 : D} {a b c : Expr} {op op' : CmpOp} {r r' : R2} {d3 : D} {k l : Bool} (ho : OpR X (compareOp op) r) (ho' : OpR X (compareOp op') r') (ha : PD X T B a Γ H d1) (hb : PD X T B b Γ H d2) (hc : PD X T B c Γ H d3) (hr : RD T B r d1 d2 (.b k) H) (hr' : RD T B r' d2 d3 (.b l) H)
    (σ : L2.St) (H1 : Hp) (x : Ex T H H1) (s : Sl T B H1 σ Γ) (Q : VK) (q : ∀ v H2, Ex T H1 H2 → At B H2 (.b (k && l)) v → Q v H2) : tChain r r' (wE X a) (wE X b) (wE X c) σ H1 Q := ha σ H1 x s _ fun v H2 e2 at2 => hb σ H2 (x.trans e2) (s.mono e2) _ fun u H3 e3 at3 => hr v u H3 ((x.trans e2).trans e3) (at2.mono e3) at3 _ fun z H4 e4 at4 => ⟨k, at4, by
    cases k with
    | true =>
      rw [if_pos rfl]
      refine hc σ H4 (((x.trans e2).trans e3).trans e4) (s.mono ((e2.trans e3).trans e4)) _ fun w H5 e5 at5 => ?_
      exact hr' u w H5 ((((x.trans e2).trans e3).trans e4).trans e5) (at3.mono (e4.trans e5)) at5 Q fun z H6 e6 at6 => q z H6 ((((e2.trans e3).trans e4).trans e5).trans e6) at6
    | false =>
      rw [if_neg Bool.false_ne_true]
      exact q _ H4 ((e2.trans e3).trans e4) rfl⟩
theorem td_chain {X : Cx} {T : List (Addr × Str)} {B : Addr} {Γ : List (Option D)} {H : Hp} {d1 d2 : D} {a b c : Expr} {pos : Pos} {op op' : CmpOp} {r r' : R2} {d3 : D} {k l : Bool} (ho : OpR X (compareOp op) r) (ho' : OpR X (compareOp op') r') (ha : PD X T B a Γ H d1) (hb : PD X T B b Γ H d2) (hc : PD X T B c Γ H d3) (hr : RD T B r d1 d2 (.b k) H) (hr' : RD T B r' d2 d3 (.b l) H)
    (hm : lastMarks [op, op'] [b, c] = false := by with_unfolding_all rfl) : TD X T B (.Compare a [op, op'] [b, c] pos) Γ H (k && l) := fun σ H1 x s Q q =>
  PT.w (pt_chain ho ho' (peS X a) (peS X b) (peS X c) hm) (pd_chain_w ho ho' ha hb hc hr hr' σ H1 x s _ fun v H2 e2 at2 => ⟨k && l, at2, q H2 e2⟩)
theorem td_leleI {X : Cx} {T : List (Addr × Str)} {B : Addr} {Γ : List (Option D)} {H : Hp} {a b c : Expr} {pos : Pos} {l m n : Int} (ha : PD X T B a Γ H (.i l)) (hb : PD X T B b Γ H (.i m)) (hc : PD X T B c Γ H (.i n)) (hm : lastMarks [.LtE, .LtE] [b, c] = false := by with_unfolding_all rfl) :
    TD X T B (.Compare a [.LtE, .LtE] [b, c] pos) Γ H (decide (l ≤ m) && decide (m ≤ n)) := td_chain op_le op_le ha hb hc (rd_I0 fun _ => rfl) (rd_I0 fun _ => rfl) hm
def R_check_chances (ds : List D) (d : D) : Prop := ∃ (m : Nat) (rs : Rules) (cs : List Int), OkR m rs ∧ cs.length = m ∧ (∀ c ∈ cs, 0 ≤ c ∧ c ≤ 12) ∧ ds = [bkD m rs, sD cs] ∧ d = .n
theorem has_check_chances (Z : Zk K mg) : Has P w K mg base 1 "check_chances" (spD T (He.ga K "Book") R_check_chances) := by
  have hN : (["book", "chances", "chance"] : List Str).Nodup := by decide +kernel
  refine has_D (N := ["book", "chances", "chance"]) (ps := ["book", "chances"]) (d := dF 41 "check_chances" "check_chances") (Z.d 28 rfl rfl rfl) (Z.glo 23 rfl) ⟨rfl, rfl, rfl, hN, rfl, by decide +kernel, by decide +kernel⟩ ?hlen (fun _ _ _ _ _ _ us hl => match us, hl with | [_, _], _ => rfl) (fun f cd A outer s0 H E hr0 ds r hR Q q => ?body)
  case hlen => exact fun ds d ⟨_, _, _, _, _, _, h, _⟩ => by rw [h]; rfl
  obtain ⟨m, rs, cs, ho, hl, hc, rfl, rfl⟩ := hR
  refine sd_skip (TD.is (WD.t (wd_or (td_not (td_val (pd_isi (r := true) Z.isinstance Z.tuple_ boot_tuple (pdv 1) rfl (by decide +kernel)))) (fun _ => (wd_or1 (td_neI (pd_lenT Z.len (pdv 1)) (pd_bkM Z.bk (pdv 0))))))) ?_) ?_
  · rw [List.length_map, hl]
    show (!true || !decide ((m : Int) = m)) = false
    rw [decide_eq_true rfl]
    rfl
  refine sd_for (S := Nob) cs D.i (fun _ _ => True) (fun _ => [some (bkD m rs), some (sD cs), none]) (fun _ c => [some (bkD m rs), some (sD cs), some (.i c)]) PassesOwn.never rfl (id_tup (pdv 1))
    (pg_name (i := 2) hN rfl (.inl rfl)) (fun k s _ => gd_name) (fun _ _ => True.intro) (gle (by repeat' first | exact True.intro | exact rfl | refine And.intro ?_ ?_)) (fun _ _ _ _ _ => True.intro) ?_ ?_
  · rintro H2 e2 k c H' hk eb _
    have hb := hc c (List.mem_of_getElem? hk)
    refine sd_skip (TD.is (WD.t (wd_or (td_not (td_val (pd_isi (r := true) Z.isinstance Z.int_ boot_int (pdv 2) rfl (by decide +kernel)))) (fun _ => (wd_or (td_val (pd_isi (r := false) Z.isinstance Z.bool_ boot_bool (pdv 2) rfl (by decide +kernel))) (fun _ => (wd_or1 (td_not (td_leleI pd_int (pdv 2) (pd_gint rfl Z.most_chance))))))))) ?_) ?_
    · show (!true || (false || !(decide ((0 : Int) ≤ c) && decide (c ≤ 12)))) = false
      rw [decide_eq_true hb.1, decide_eq_true hb.2]
      rfl
    · exact sd_nil fun σ H4 e4 s4 => ⟨eb.trans e4, s4.gle (gle (by repeat' first | exact True.intro | exact rfl | refine And.intro ?_ ?_)), True.intro⟩
  · intro H' eb _
    exact sd_nil fun σ H1 e s => q .non H1 (eb.trans e) rfl
/-- the pairs of enumerate -/
def enI (cs : List Int) : List (Int × Nat) := cs.zip (List.range cs.length)
theorem en_ints (cs : List Int) : enD (cs.map D.i) = (enI cs).map fun z => D.t [.i (z.2 : Nat), .i z.1] := by
  unfold enD enI
  rw [List.length_map, List.zip_map_left, List.map_map]
  rfl
def rowI (s cs : List Int) : List Int := (enI cs).map fun z => if decide ((z.2 : Int) ∈ s) = true then z.1 else 12 - z.1
def chF (ss : List (List Int)) (f : List Int → Bool) (cs : List Int) : Int := ss.foldl (fun acc s => if f s = true then acc + prodI (rowI s cs) else acc) 0
theorem chF_snoc (ss : List (List Int)) (f : List Int → Bool) (cs s : List Int) : chF (ss ++ [s]) f cs = if f s = true then chF ss f cs + prodI (rowI s cs) else chF ss f cs := by
  unfold chF
  rw [List.foldl_append]
  rfl
theorem prod_bd : ∀ (ns : List Int), (∀ n ∈ ns, 0 ≤ n ∧ n ≤ 12) → 0 ≤ prodI ns ∧ prodI ns ≤ 12 ^ ns.length := fun ns => by
  refine snoc_ind (motive := fun ns => (∀ n ∈ ns, 0 ≤ n ∧ n ≤ 12) → 0 ≤ prodI ns ∧ prodI ns ≤ 12 ^ ns.length) (fun _ => ⟨by decide, by decide⟩) (fun ns n ih h => ?_) ns
  have h1 := ih fun t ht => h t (List.mem_append_left _ ht)
  have h2 := h n (List.mem_append_right _ (List.mem_singleton.mpr rfl))
  rw [prodI_snoc, List.length_append, List.length_singleton, Int.pow_succ]
  exact ⟨Int.mul_nonneg h1.1 h2.1, Int.mul_le_mul h1.2 h2.2 h2.1 (Int.pow_nonneg (by decide))⟩
theorem pow12 {k : Nat} (h : k ≤ 5) : (12 : Int) ^ k ≤ 248832 := by
  match k, h with
  | 0, _ => decide
  | 1, _ => decide
  | 2, _ => decide
  | 3, _ => decide
  | 4, _ => decide
  | 5, _ => decide
  | k + 6, h => omega
theorem r_prod {K : PySem.W.Frag} {B : Addr} {H : Hp} {p : Addr} {vs : List V} {ns : List Int} (hl : ns.length ≤ 5) (hb : ∀ n ∈ ns, 0 ≤ n ∧ n ≤ 12) (hp : SqL K H p vs) (hv : AtL B H (ns.map D.i) vs) : R_product_of K H [.r p] (.i (prodI ns)) := by
  rw [AtL.ints hv] at hp
  refine ⟨p, ns, hp, fun k hk => ?_, rfl, rfl⟩
  have z := prod_bd (ns.take k) fun n hn => hb n (List.mem_of_mem_take hn)
  have y := pow12 (k := (ns.take k).length) (by rw [List.length_take]; omega)
  omega
theorem enI_len (cs : List Int) : (enI cs).length = cs.length := by
  unfold enI
  rw [List.length_zip, List.length_range, Nat.min_self]
theorem rowI_len (s cs : List Int) : (rowI s cs).length = cs.length := by
  unfold rowI
  rw [List.length_map, enI_len]
theorem rowI_bd {s cs : List Int} (h : ∀ c ∈ cs, 0 ≤ c ∧ c ≤ 12) : ∀ n ∈ rowI s cs, 0 ≤ n ∧ n ≤ 12 := by
  intro n hn
  obtain ⟨z, hz, rfl⟩ := List.mem_map.mp hn
  have hc := h z.1 (List.of_mem_zip hz).1
  split
  · exact hc
  · omega
theorem chF_nn {cs : List Int} (h : ∀ c ∈ cs, 0 ≤ c ∧ c ≤ 12) (f : List Int → Bool) : ∀ ss : List (List Int), 0 ≤ chF ss f cs := fun ss => by
  refine snoc_ind (motive := fun ss => 0 ≤ chF ss f cs) (Int.le_refl _) (fun ss s ih => ?_) ss
  rw [chF_snoc]
  split
  · have := (prod_bd _ (rowI_bd (s := s) h)).1
    omega
  · exact ih
noncomputable def chance (m : Nat) (rs : Rules) (g cs : List Int) : Int × Int :=
  (chF (setsOf m) (enough m rs g) cs / (Int.gcd (chF (setsOf m) (enough m rs g) cs) (prodI (List.replicate m 12)) : Int), prodI (List.replicate m 12) / (Int.gcd (chF (setsOf m) (enough m rs g) cs) (prodI (List.replicate m 12)) : Int))
def R_chance (ds : List D) (d : D) : Prop := ∃ (m : Nat) (rs : Rules) (g cs : List Int), OkR m rs ∧ OkS m g ∧ cs.length = m ∧ (∀ c ∈ cs, 0 ≤ c ∧ c ≤ 12) ∧ ds = [bkD m rs, sD g, sD cs] ∧ d = prD (chance m rs g cs)
theorem mks_len (m : Nat) : (mks m).length = m := by unfold mks; rw [List.length_map, List.length_range]
theorem has_chance (Z : Zk K mg) (TB : TbF K mg base) : Has P w K mg base 5 "chance" (spD (tabsT K) (He.ga K "Book") R_chance) := by
  have hN : (["book", "goal", "chances", "total", "one", "rows", "mark", "number"] : List Str).Nodup := by decide +kernel
  refine has_D (N := ["book", "goal", "chances", "total", "one", "rows", "mark", "number"]) (ps := ["book", "goal", "chances"]) (d := dF 42 "chance" "chance") (Z.d 29 rfl rfl rfl) (Z.glo 24 rfl) ⟨rfl, rfl, rfl, hN, rfl, by decide +kernel, by decide +kernel⟩ ?hlen (fun _ _ _ _ _ _ us hl => match us, hl with | [_, _, _], _ => rfl) (fun f cd A outer s0 H E hr0 ds r hR Q q => ?body)
  case hlen => exact fun ds d ⟨_, _, _, _, _, _, _, _, h, _⟩ => by rw [h]; rfl
  obtain ⟨m, rs, g, cs, ho, hg, hl, hc, rfl, rfl⟩ := hR
  have h5 := ho.m5
  refine sd_expr ((pd_call (has_check_goal Z) hr0 (ad_cons (pdv 0) (ad_cons (pdv 1) ad_nil)) ⟨_, _, _, ho, hg, rfl, rfl⟩)) ?_
  refine sd_expr ((pd_call (has_check_chances Z) hr0 (ad_cons (pdv 0) (ad_cons (pdv 2) ad_nil)) ⟨_, _, _, ho, ?_, ?_, rfl, rfl⟩)) ?_
  · exact hl
  · exact hc
  refine sd_set (i := 3) hN rfl (.inl rfl) pd_int ?_
  refine sd_for (S := Nob) (setsOf m) sD (fun _ _ => True) (fun i => [some (bkD m rs), some (sD g), some (sD cs), some (.i (chF ((setsOf m).take i) (enough m rs g) cs)), none, none, none, none])
      (fun i s => [some (bkD m rs), some (sD g), some (sD cs), some (.i (chF ((setsOf m).take i) (enough m rs g) cs)), some (sD s), none, none, none]) PassesOwn.never rfl (id_listR (PL.r (pl_call (has_sets_of Z TB) hr0 (ad_cons (pd_bkM Z.bk (pdv 0)) ad_nil) ⟨_, ?_, rfl, rfl⟩)))
      (pg_name (i := 4) hN rfl (by first | exact .inl rfl | exact .inr rfl)) (fun k s _ => gd_name) (fun _ _ => True.intro) (by rw [List.take_zero]; exact (gle (by repeat' first | exact True.intro | exact rfl | refine And.intro ?_ ?_))) (fun _ _ _ _ _ => True.intro) ?_ ?_
  · exact h5
  · rintro H2 e2 k s H' hs eb _
    have hsm : s ∈ setsOf m := List.mem_of_getElem? hs
    have os := mem_setsOf hsm
    have tk : (setsOf m).take (k + 1) = (setsOf m).take k ++ [s] := by rw [List.take_add_one, hs]; rfl
    refine sd_if (td_val (pd_call (has_is_enough Z) hr0 (ad_cons (pdv 0) (ad_cons (pdv 1) (ad_cons (pdv 4) ad_nil))) ⟨_, _, _, _, ho, ?_, ?_, rfl, rfl⟩)) (fun hw => ?_) (fun hw => ?_)
    · exact hg
    · exact os
    · refine sd_setLc (i := 5) (own := [("mark", 6), ("number", 7)]) (is := [6, 7]) _ _ _ _ _ rfl hN rfl rfl (sw_true rfl rfl rfl (by decide +kernel)) (ID.is (id_enumT Z.enumerate (pdv 2)) (en_ints _)) (blk_ok (by kernel_rfl)) (fun _ _ _ _ _ => pg_tup rfl (pgs_cons (pg_name (i := 6) hN rfl (by first | exact .inl rfl | exact .inr rfl)) (pgs_cons (pg_name (i := 7) hN rfl (by first | exact .inl rfl | exact .inr rfl)) pgs_nil))) (fun a ha => (gd_tup2)) (by decide) (fun s0 H0 C cl fp => pts_nil) (fun a ha σ1 H1 e1 s1 R r => r H1 (Exb.refl _)) (fun a ha hp s0 H0 C cl fp => (pd_ite (td_in (pdv 6) (pdv 4)) (pdv 7) (pd_sub (pd_gint rfl Z.most_chance) (pdv 7)))) ?_ ?_
      · rw [enI_len]
        show cs.length < 2 ^ 24
        omega
      intro p vs H3 hn3 e3 hp hv
      rw [List.filter_eq_self.mpr fun _ _ => rfl] at hv
      have hv : AtL (He.ga K "Book") H3 ((rowI s cs).map D.i) vs := by
        unfold rowI
        rw [List.map_map]
        exact hv
      refine sd_aug (i := 3) hN rfl (.inl rfl) rfl (pd_callH (has_product_of Z) hr0 (ad_cons (pdv 5) ad_nil) fun H1 e => r_prod (by rw [rowI_len]; omega) (rowI_bd hc) (SqL.of (Ex.lst e hp)) (hv.mono e)) ?_
      refine sd_nil fun σ H6 e6 s6 => wS_nil ⟨eb.trans (e3.trans e6), ?_, True.intro⟩
      show Sl (tabsT K) (He.ga K "Book") H6 σ [some (bkD m rs), some (sD g), some (sD cs), some (.i (chF ((setsOf m).take (k + 1)) (enough m rs g) cs)), none, none, none, none]
      rw [tk, chF_snoc, if_pos hw]
      exact s6.gle (gle (by repeat' first | exact True.intro | exact rfl | refine And.intro ?_ ?_))
    · refine sd_nil fun σ H6 e6 s6 => wS_nil ⟨eb.trans e6, ?_, True.intro⟩
      show Sl (tabsT K) (He.ga K "Book") H6 σ [some (bkD m rs), some (sD g), some (sD cs), some (.i (chF ((setsOf m).take (k + 1)) (enough m rs g) cs)), none, none, none, none]
      rw [tk, chF_snoc, if_neg (by rw [hw]; exact Bool.false_ne_true)]
      exact s6.gle (gle (by repeat' first | exact True.intro | exact rfl | refine And.intro ?_ ?_))
  · intro H2 eb _
    rw [List.take_length]
    have er : (mks m).map (fun _ : Int => D.i 12) = (List.replicate m (12 : Int)).map D.i := by
      have h1 : (mks m).map (fun _ : Int => (12 : Int)) = List.replicate m 12 := by
        rw [List.map_const', mks_len]
      rw [← h1, List.map_map]
      rfl
    have b12 := prod_bd (List.replicate m 12) fun n hn => by rw [(List.mem_replicate.mp hn).2]; decide
    have hpos : 0 < prodI (List.replicate m (12 : Int)) := by
      match m, h5 with
      | 0, _ => decide
      | 1, _ => decide
      | 2, _ => decide
      | 3, _ => decide
      | 4, _ => decide
      | 5, _ => decide
      | k + 6, h => omega
    rw [List.length_replicate] at b12
    have p12 := pow12 h5
    refine sd_ret (pd_call (has_lowest Z) hr0 (ad_cons (pdv 3) (ad_cons (pd_callL (has_product_of Z) hr0 (PL.r (PL.is (pl_lc (own := [("mark", 6)]) (is := [6]) (mks m) (D.i) _ _ rfl hN (ID.is (id_range1 Z.range (pd_bkM Z.bk (pdv 0)) ?_) (rg_mks m)) (blk_ok (by kernel_rfl)) (fun _ _ _ _ _ => pg_name (i := 6) hN rfl (by first | exact .inl rfl | exact .inr rfl)) (fun a ha => (gd_name)) (by decide) (fun a ha s0 H0 C cl fp => (pd_gint rfl Z.most_chance)) ?_) er)) (d := .i (prodI (List.replicate m 12))) fun H1 p vs e hp hv => ?_) ad_nil))
      ⟨chF (setsOf m) (enough m rs g) cs, prodI (List.replicate m 12), chF_nn hc _ _, hpos, by omega, rfl, rfl⟩) fun v H3 e3 a3 => q v H3 (eb.trans e3) a3
    · omega
    · rw [mks_len]
      show m < 2 ^ 24
      omega
    · exact r_prod (by rw [List.length_replicate]; exact h5) (fun n hn => by rw [(List.mem_replicate.mp hn).2]; decide) hp hv
end
end G30
set_option Elab.async false
set_option linter.all false
set_option maxRecDepth 100000
set_option maxHeartbeats 4000000
set_option autoImplicit false
namespace G30
open PySem PySem.Spec PyProof.Rows L2 LamX StX SlX
section
variable {P : Program} {w : World} {K : PySem.W.Frag} {mg : Str → Option Value} {base : Heap} {T : List (Addr × Str)}
def altI (cs : List Int) : Int := ((enI cs).map fun z => if decide ((z.2 : Int) % 2 = 0) = true then z.1 else -z.1).sum
theorem counts_len (m : Nat) (rs : Rules) (g : List Int) : (counts m rs g).length = m + 1 := cntF_len _ _ _
def R_alternating (ds : List D) (d : D) : Prop := ∃ (m : Nat) (rs : Rules) (g : List Int), OkR m rs ∧ OkS m g ∧ ds = [bkD m rs, sD g] ∧ d = .i (altI (counts m rs g))
theorem has_alternating (Z : Zk K mg) (TB : TbF K mg base) : Has P w K mg base 6 "alternating" (spD (tabsT K) (He.ga K "Book") R_alternating) := by
  have hN : (["book", "goal", "size", "count"] : List Str).Nodup := by decide +kernel
  refine has_D (N := ["book", "goal", "size", "count"]) (ps := ["book", "goal"]) (d := dF 43 "alternating" "alternating") (Z.d 30 rfl rfl rfl) (Z.glo 25 rfl) ⟨rfl, rfl, rfl, hN, rfl, by decide +kernel, by decide +kernel⟩ ?hlen (fun _ _ _ _ _ _ us hl => match us, hl with | [_, _], _ => rfl) (fun f cd A outer s0 H E hr0 ds r hR Q q => ?body)
  case hlen => exact fun ds d ⟨_, _, _, _, _, h, _⟩ => by rw [h]; rfl
  obtain ⟨m, rs, g, ho, hg, rfl, rfl⟩ := hR
  have h5 := ho.m5
  refine sd_expr ((pd_call (has_check_goal Z) hr0 (ad_cons (pdv 0) (ad_cons (pdv 1) ad_nil)) ⟨_, _, _, ho, hg, rfl, rfl⟩)) ?_
  refine sd_ret (pd_sumM rfl Z.sum (PL.r (pl_lc (own := [("size", 2), ("count", 3)]) (is := [2, 3]) _ _ _ _ rfl hN (ID.is (id_enumT Z.enumerate (pd_call (has_counts Z TB) hr0 (ad_cons (pdv 0) (ad_cons (pdv 1) ad_nil)) ⟨_, _, _, ho, hg, rfl, rfl⟩)) (en_ints _)) (blk_ok (by kernel_rfl)) (fun _ _ _ _ _ => pg_tup rfl (pgs_cons (pg_name (i := 2) hN rfl (by first | exact .inl rfl | exact .inr rfl)) (pgs_cons (pg_name (i := 3) hN rfl (by first | exact .inl rfl | exact .inr rfl)) pgs_nil))) (fun a ha => (gd_tup2)) (by decide) (fun a ha s0 H0 C cl fp => (pd_ite (td_eqI (pd_mod (pdv 2) pd_int ?_) pd_int) (pdv 3) (pd_neg (pdv 3)))) ?_))) q
  · decide
  · rw [enI_len, counts_len]
    show m + 1 < 2 ^ 24
    omega
noncomputable def hadBy (m : Nat) (rs : Rules) (k : Int) : List (List Int) := (setsOf m).filter fun s => !decide (k ∈ s) && decide (k ∈ clo m rs s)
noncomputable def waysTo (m : Nat) (rs : Rules) (k : Int) : List (List Int) := (hadBy m rs k).filter fun s => !(hadBy m rs k).any fun t => !decide (t = s) && within t s
def R_ways_to (ds es : List D) : Prop := ∃ (m : Nat) (rs : Rules) (k : Int), OkR m rs ∧ 0 ≤ k ∧ k < m ∧ ds = [bkD m rs, .i k] ∧ es = (waysTo m rs k).map sD
theorem has_ways_to (Z : Zk K mg) (TB : TbF K mg base) : Has P w K mg base 5 "ways_to" (spL (tabsT K) (He.ga K "Book") R_ways_to) := by
  have hN : (["book", "mark", "some", "one", "other"] : List Str).Nodup := by decide +kernel
  refine has_L (N := ["book", "mark", "some", "one", "other"]) (ps := ["book", "mark"]) (d := dF 47 "ways_to" "ways_to") (Z.d 32 rfl rfl rfl) (Z.glo 27 rfl) ⟨rfl, rfl, rfl, hN, rfl, by decide +kernel, by decide +kernel⟩ ?hlen (fun _ _ _ _ _ _ us hl => match us, hl with | [_, _], _ => rfl) (fun f cd A outer s0 H E hr0 ds r hR Q q => ?body)
  case hlen => exact fun ds d ⟨_, _, _, _, _, _, h, _⟩ => by rw [h]; rfl
  obtain ⟨m, rs, mk, ho, hk0, hk1, rfl, rfl⟩ := hR
  have h5 := ho.m5
  refine sd_setL (i := 2) hN rfl (by first | exact .inl rfl | exact .inr rfl) (pl_lcI (own := [("one", 3)]) (is := [3]) (setsOf m) (sD) _ _ _ rfl hN (id_listR (PL.r (pl_call (has_sets_of Z TB) hr0 (ad_cons (pd_bkM Z.bk (pdv 0)) ad_nil) ⟨_, ?_, rfl, rfl⟩))) (blk_ok (by kernel_rfl)) (fun _ _ _ _ _ => pg_name (i := 3) hN rfl (by first | exact .inl rfl | exact .inr rfl)) (fun a ha => (gd_name)) (by decide) (fun a ha s0 H0 C cl fp => (WD.t (wd_and (td_notin (pdv 1) (pdv 3)) (fun _ => (wd_and1 (td_in (pdv 1) (pd_call (has_closure Z) hr0 (ad_cons (pd_bkR Z.bk (pdv 0)) (ad_cons (pdv 3) ad_nil)) ⟨_, _, _, ho, ?_, ?_, rfl, rfl⟩))))))) (fun a ha hp s0 H0 C cl fp => (pdv 3)) ?_) ?_
  · exact h5
  · exact (mem_setsOf ha).rg
  · exact (mem_setsOf ha).l64 h5
  · exact setsOf_sz h5
  intro p vs H1 hn1 e1 hp hv
  have hh : ∀ s ∈ hadBy m rs mk, OkS m s := fun s hs => mem_setsOf (List.mem_filter.mp hs).1
  have hz : (hadBy m rs mk).length < sizeLine := Nat.lt_of_le_of_lt (List.length_filter_le _ _) (setsOf_sz h5)
  refine sd_retL (pl_lcI (own := [("one", 3)]) (is := [3]) (hadBy m rs mk) (sD) _ _ _ rfl hN (id_listR (prv 2 (SqL.of hp) hv)) (blk_ok (by kernel_rfl)) (fun _ _ _ _ _ => pg_name (i := 3) hN rfl (by first | exact .inl rfl | exact .inr rfl)) (fun a ha => (gd_name)) (by decide) (fun a ha s0 H0 C cl fp => (td_not (td_val (pd_anyM rfl Z.any (PL.r (pl_lc (own := [("other", 4)]) (is := [4]) (hadBy m rs mk) (sD) _ _ rfl hN (id_listR (prv 2 (SqL.of hp) hv)) (blk_ok (by kernel_rfl)) (fun _ _ _ _ _ => pg_name (i := 4) hN rfl (by first | exact .inl rfl | exact .inr rfl)) (fun a ha => (gd_name)) (by decide) (fun a ha s0 H0 C cl fp => (pd_and (pd_neS hr0 (pdv 4) (pdv 3)) (fun _ => (pd_one (pd_call (has_is_within Z) hr0 (ad_cons (pdv 4) (ad_cons (pdv 3) ad_nil)) ⟨_, _, ?_, rfl, rfl⟩))))) ?_)))))) (fun a ha hp s0 H0 C cl fp => (pdv 3)) ?_) ?_
  · exact (hh _ ‹_›).sz h5
  · exact hz
  · exact hz
  · intro p2 vs2 H2 hn2 e2 hp2 hv2
    exact q p2 vs2 H2 (e1.free hn2) (e1.trans e2) hp2 (by rw [show (List.map sD (waysTo m rs mk)) = (List.filter _ _).map sD from rfl]; exact hv2)
def R_check_mark (ds : List D) (d : D) : Prop := ∃ (m : Nat) (rs : Rules) (k : Int), 0 ≤ k ∧ k < m ∧ ds = [bkD m rs, .i k] ∧ d = .n
theorem has_check_mark (Z : Zk K mg) : Has P w K mg base 2 "check_mark" (spD T (He.ga K "Book") R_check_mark) := by
  have hN : (["book", "mark"] : List Str).Nodup := by decide +kernel
  refine has_D (N := ["book", "mark"]) (ps := ["book", "mark"]) (d := dF 48 "check_mark" "check_mark") (Z.d 33 rfl rfl rfl) (Z.glo 28 rfl) ⟨rfl, rfl, rfl, hN, rfl, by decide +kernel, by decide +kernel⟩ ?hlen (fun _ _ _ _ _ _ us hl => match us, hl with | [_, _], _ => rfl) (fun f cd A outer s0 H E hr0 ds r hR Q q => ?body)
  case hlen => exact fun ds d ⟨_, _, _, _, _, h, _⟩ => by rw [h]; rfl
  obtain ⟨m, rs, mk, hk0, hk1, rfl, rfl⟩ := hR
  refine sd_expr ((pd_call (has_check_book Z) hr0 (ad_cons (pdv 0) ad_nil) ⟨_, _, rfl, rfl⟩)) ?_
  refine sd_skip (TD.is (td_not (td_val (pd_call (has_is_integer Z) hr0 (ad_cons (pdv 1) (ad_cons pd_int (ad_cons (pd_sub (pd_bkM Z.bk (pdv 0)) pd_int) ad_nil))) ⟨_, _, _, rfl, rfl⟩))) ?_) (sd_nil fun σ H1 e s => q .non H1 e rfl)
  show (!(decide ((0 : Int) ≤ mk) && decide (mk ≤ (m : Int) - 1))) = false
  rw [decide_eq_true hk0, decide_eq_true (by omega)]
  rfl
theorem has_ways (Z : Zk K mg) (TB : TbF K mg base) : Has P w K mg base 6 "ways" (spL (tabsT K) (He.ga K "Book") R_ways_to) := by
  have hN : (["book", "mark"] : List Str).Nodup := by decide +kernel
  refine has_L (N := ["book", "mark"]) (ps := ["book", "mark"]) (d := dF 49 "ways" "ways") (Z.d 34 rfl rfl rfl) (Z.glo 29 rfl) ⟨rfl, rfl, rfl, hN, rfl, by decide +kernel, by decide +kernel⟩ ?hlen (fun _ _ _ _ _ _ us hl => match us, hl with | [_, _], _ => rfl) (fun f cd A outer s0 H E hr0 ds r hR Q q => ?body)
  case hlen => exact fun ds d ⟨_, _, _, _, _, _, h, _⟩ => by rw [h]; rfl
  obtain ⟨m, rs, mk, ho, hk0, hk1, rfl, rfl⟩ := hR
  refine sd_expr ((pd_call (has_check_mark Z) hr0 (ad_cons (pdv 0) (ad_cons (pdv 1) ad_nil)) ⟨_, _, _, hk0, hk1, rfl, rfl⟩)) ?_
  exact sd_retL (pl_call (has_ways_to Z TB) hr0 (ad_cons (pdv 0) (ad_cons (pdv 1) ad_nil)) ⟨_, _, _, ho, hk0, hk1, rfl, rfl⟩) q
/-! ### methods of a book -/
theorem Zk.m_full (Z : Zk K mg) : Meth K (He.ga K "Book") "full" (He.fAd K ("Book", some "full")) := He.meth_ok (Z.ok 108 rfl)
theorem Zk.m_all (Z : Zk K mg) : Meth K (He.ga K "Book") "all_sets" (He.fAd K ("Book", some "all_sets")) := He.meth_ok (Z.ok 109 rfl)
theorem Zk.m_shut (Z : Zk K mg) : Meth K (He.ga K "Book") "closed_sets" (He.fAd K ("Book", some "closed_sets")) := He.meth_ok (Z.ok 110 rfl)
def R_full (ds : List D) (d : D) : Prop := ∃ (m : Nat) (rs : Rules) (s : List Int), OkR m rs ∧ OkS m s ∧ ds = [bkD m rs, sD s] ∧ d = sD (clo m rs s)
theorem fnr_full (Z : Zk K mg) : FnR P w K mg base CX0 4 (He.fAd K ("Book", some "full")) (spD T (He.ga K "Book") R_full) := by
  have hN : (["self", "thing"] : List Str).Nodup := by decide +kernel
  refine (fnr_of (x := "full") (N := ["self", "thing"]) (ps := ["self", "thing"]) (d := dM 23 6 "Book" "full" "Book.full") (k := 3) (Z.d 10 rfl rfl rfl) ⟨rfl, rfl, rfl, hN, rfl, by decide +kernel, by decide +kernel⟩ (fun vs H Q E ⟨ds, r, a, t, hR, _⟩ => by obtain ⟨_, _, _, _, _, rfl, _⟩ := hR; rw [a.len]; rfl) (fun _ _ _ _ _ _ us hl => match us, hl with | [_, _], _ => rfl) fun f cd A outer s0 H E hr0 vs Q ⟨ds, r, a, t, hR, q⟩ => ?_).1
  obtain ⟨m, rs, s, ho, hs, rfl, rfl⟩ := hR
  have body : SD (bx P w K mg base ["self", "thing"] (dM 23 6 "Book" "full" "Book.full") f cd A outer s0 H E) T (He.ga K "Book") (dM 23 6 "Book" "full" "Book.full").body (startG ["self", "thing"] [bkD m rs, sD s]) H { nx := fun _ H' => Q .non H', rt := Q } := by
    refine sd_expr ((pd_call (has_check_set Z) hr0 (ad_cons (pd_bkM Z.bk (pdv 0)) (ad_cons (pdv 1) ad_nil)) ⟨_, _, ?_, ?_, rfl, rfl⟩)) ?_
    · exact ho.m5
    · exact hs
    refine sd_ret (pd_call (has_closure Z) hr0 (ad_cons (pd_bkR Z.bk (pdv 0)) (ad_cons (pdv 1) ad_nil)) ⟨_, _, _, ho, ?_, ?_, rfl, rfl⟩) q
    · exact hs.rg
    · exact hs.l64 ho.m5
  exact body _ H (Exb.refl _) (sl_start t a)
def R_all_sets (ds es : List D) : Prop := ∃ (m : Nat) (rs : Rules), OkR m rs ∧ ds = [bkD m rs] ∧ es = (setsOf m).map sD
theorem fnr_all (Z : Zk K mg) (TB : TbF K mg base) : FnR P w K mg base CX0 5 (He.fAd K ("Book", some "all_sets")) (spL (tabsT K) (He.ga K "Book") R_all_sets) := by
  have hN : (["self"] : List Str).Nodup := by decide +kernel
  refine (fnr_of (x := "all_sets") (N := ["self"]) (ps := ["self"]) (d := dM 23 8 "Book" "all_sets" "Book.all_sets") (k := 4) (Z.d 11 rfl rfl rfl) ⟨rfl, rfl, rfl, hN, rfl, by decide +kernel, by decide +kernel⟩ (fun vs H Q E ⟨ds, r, a, t, hR, _⟩ => by obtain ⟨_, _, _, rfl, _⟩ := hR; rw [a.len]; rfl) (fun _ _ _ _ _ _ us hl => match us, hl with | [_], _ => rfl) fun f cd A outer s0 H E hr0 vs Q ⟨ds, r, a, t, hR, q⟩ => ?_).1
  obtain ⟨m, rs, ho, rfl, rfl⟩ := hR
  have body : SD (bx P w K mg base ["self"] (dM 23 8 "Book" "all_sets" "Book.all_sets") f cd A outer s0 H E) (tabsT K) (He.ga K "Book") (dM 23 8 "Book" "all_sets" "Book.all_sets").body (startG ["self"] [bkD m rs]) H { nx := fun _ H' => Q .non H', rt := Q } := by
    refine sd_retL (pl_call (has_sets_of Z TB) hr0 (ad_cons (pd_bkM Z.bk (pdv 0)) ad_nil) ⟨_, ?_, rfl, rfl⟩) q
    exact ho.m5
  exact body _ H (Exb.refl _) (sl_start t a)
def shutSets (m : Nat) (rs : Rules) : List (List Int) := (setsOf m).filter (isShut rs)
def R_closed_sets (ds es : List D) : Prop := ∃ (m : Nat) (rs : Rules), OkR m rs ∧ ds = [bkD m rs] ∧ es = (shutSets m rs).map sD
theorem fnr_shut (Z : Zk K mg) (TB : TbF K mg base) : FnR P w K mg base CX0 5 (He.fAd K ("Book", some "closed_sets")) (spL (tabsT K) (He.ga K "Book") R_closed_sets) := by
  have hN : (["self", "one"] : List Str).Nodup := by decide +kernel
  refine (fnr_of (x := "closed_sets") (N := ["self", "one"]) (ps := ["self"]) (d := dM 23 9 "Book" "closed_sets" "Book.closed_sets") (k := 4) (Z.d 12 rfl rfl rfl) ⟨rfl, rfl, rfl, hN, rfl, by decide +kernel, by decide +kernel⟩ (fun vs H Q E ⟨ds, r, a, t, hR, _⟩ => by obtain ⟨_, _, _, rfl, _⟩ := hR; rw [a.len]; rfl) (fun _ _ _ _ _ _ us hl => match us, hl with | [_], _ => rfl) fun f cd A outer s0 H E hr0 vs Q ⟨ds, r, a, t, hR, q⟩ => ?_).1
  obtain ⟨m, rs, ho, rfl, rfl⟩ := hR
  have body : SD (bx P w K mg base ["self", "one"] (dM 23 9 "Book" "closed_sets" "Book.closed_sets") f cd A outer s0 H E) (tabsT K) (He.ga K "Book") (dM 23 9 "Book" "closed_sets" "Book.closed_sets").body (startG ["self", "one"] [bkD m rs]) H { nx := fun _ H' => Q .non H', rt := Q } := by
    refine sd_retL (pl_lcI (own := [("one", 1)]) (is := [1]) (setsOf m) (sD) _ _ _ rfl hN (id_listR (PL.r (pl_call (has_sets_of Z TB) hr0 (ad_cons (pd_bkM Z.bk (pdv 0)) ad_nil) ⟨_, ?_, rfl, rfl⟩))) (blk_ok (by kernel_rfl)) (fun _ _ _ _ _ => pg_name (i := 1) hN rfl (by first | exact .inl rfl | exact .inr rfl)) (fun a ha => (gd_name)) (by decide) (fun a ha s0 H0 C cl fp => (td_val (pd_call (has_is_shut Z) hr0 (ad_cons (pd_bkR Z.bk (pdv 0)) (ad_cons (pdv 1) ad_nil)) ⟨_, _, _, ho, rfl, rfl⟩))) (fun a ha hp s0 H0 C cl fp => (pdv 1)) ?_) q
    · exact ho.m5
    · exact setsOf_sz ho.m5
  exact body _ H (Exb.refl _) (sl_start t a)
end
end G30
set_option Elab.async false
set_option linter.all false
set_option maxRecDepth 100000
set_option maxHeartbeats 4000000
set_option autoImplicit false
namespace G30
open PySem PySem.Spec PyProof.Rows L2 LamX StX SlX
section
variable {P : Program} {w : World} {K : PySem.W.Frag} {mg : Str → Option Value} {base : Heap} {T : List (Addr × Str)}
/-! ### spans_of -/
noncomputable def spansM (m : Nat) (rs : Rules) (g : List Int) : Nat → List Int → List Int → List (List Int × List Int × Bool)
  | 0, lo, hi => [(lo, hi, enough m rs g lo)]
  | n + 1, lo, hi => if enough m rs g lo = true then [(lo, hi, true)] else if enough m rs g hi = true then
      spansM m rs g n (nrm m (lo ++ [(hi.filter fun x => !decide (x ∈ lo)).headD 0])) hi ++ spansM m rs g n lo (hi.filter fun x => !decide (x = (hi.filter fun x => !decide (x ∈ lo)).headD 0))
    else [(lo, hi, false)]
abbrev spD3 (z : List Int × List Int × Bool) : D := .t [sD z.1, sD z.2.1, .b z.2.2]
def R_spans_of (n : Nat) (ds es : List D) : Prop := ∃ (m : Nat) (rs : Rules) (g lo hi : List Int), OkR m rs ∧ OkS m g ∧ OkS m lo ∧ OkS m hi ∧ (∀ x ∈ lo, x ∈ hi) ∧ hi.length ≤ lo.length + n ∧ n ≤ 5 ∧ ds = [bkD m rs, sD g, sD lo, sD hi] ∧ es = (spansM m rs g n lo hi).map spD3
theorem asc_full {a b : List Int} (ha : a.Pairwise (· < ·)) (hb : b.Pairwise (· < ·)) (hs : ∀ x ∈ a, x ∈ b) (hl : b.length ≤ a.length) : a = b :=
  asc_uniq ha hb fun x => ⟨hs x, nodup_full (ha.imp fun h => by omega) hs hl x⟩
theorem spans_len (m : Nat) (rs : Rules) (g : List Int) : ∀ n lo hi, (spansM m rs g n lo hi).length ≤ 2 ^ n
  | 0, _, _ => by unfold spansM; exact Nat.le_refl _
  | n + 1, lo, hi => by
    unfold spansM
    have h1 := spans_len m rs g n
    have h2 : 1 ≤ 2 ^ n := Nat.one_le_two_pow
    split
    · rw [Nat.pow_succ]; simp only [List.length_cons, List.length_nil]; omega
    · split
      · rw [List.length_append, Nat.pow_succ]
        have a := h1 (nrm m (lo ++ [(hi.filter fun x => !decide (x ∈ lo)).headD 0])) hi
        have b := h1 lo (hi.filter fun x => !decide (x = (hi.filter fun x => !decide (x ∈ lo)).headD 0))
        omega
      · rw [Nat.pow_succ]; simp only [List.length_cons, List.length_nil]; omega
theorem filter_lt {s : List Int} {p : Int → Bool} {k : Int} (hk : k ∈ s) (hp : p k = false) : (s.filter p).length < s.length := by
  induction s with
  | nil => cases hk
  | cons a r ih =>
    have l1 := List.length_filter_le p r
    by_cases q : p a = true
    · rw [List.filter_cons, if_pos q, List.length_cons, List.length_cons]
      rcases List.mem_cons.mp hk with e | e
      · rw [← e, hp] at q; cases q
      · have := ih e; omega
    · rw [List.filter_cons, if_neg q, List.length_cons]
      omega
theorem OkS.filter {m : Nat} {s : List Int} (h : OkS m s) (p : Int → Bool) : OkS m (s.filter p) := ⟨h.asc.filter p, fun x hx => h.lo x (List.mem_filter.mp hx).1, fun x hx => h.hi x (List.mem_filter.mp hx).1⟩
theorem OkS.nodup {m : Nat} {s : List Int} (h : OkS m s) : s.Nodup := h.asc.imp fun h => by omega
theorem nrm_snoc_len {m : Nat} {s : List Int} {k : Int} (h : OkS m s) (hk : k ∉ s) (h0 : 0 ≤ k) (h1 : k < m) : (nrm m (s ++ [k])).length = s.length + 1 := by
  have hr : ∀ x ∈ s ++ [k], 0 ≤ x ∧ x < m := fun x hx => by
    rcases List.mem_append.mp hx with hx | hx
    · exact h.rg x hx
    · rw [List.mem_singleton.mp hx]; exact ⟨h0, h1⟩
  have nd : (s ++ [k]).Nodup := by
    rw [List.nodup_append]
    exact ⟨h.nodup, by simp, fun a ha b hb => by rw [List.mem_singleton.mp hb]; rintro rfl; exact hk ha⟩
  have a := nodup_sub (nrm m (s ++ [k])) (s ++ [k]) (nrm_ok m _).nodup fun x hx => (mem_nrm hr).mp hx
  have b := nodup_sub (s ++ [k]) (nrm m (s ++ [k])) nd fun x hx => (mem_nrm hr).mpr hx
  rw [List.length_append, List.length_singleton] at a b
  omega
theorem atI_zero {α : Type} {a : α} {l : List α} : atI (a :: l) 0 = some a := by
  unfold atI
  rw [show ixN (a :: l).length 0 = some 0 from ixN_nat (j := 0) (Nat.succ_pos _)]
  rfl
theorem has_spans_of (Z : Zk K mg) : ∀ n, Has P w K mg base (n + 5) "spans_of" (spL T (He.ga K "Book") (R_spans_of n)) := by
  intro n
  induction n with
  | zero =>
    have hN : (["book", "goal", "low", "high", "mark", "one", "less"] : List Str).Nodup := by decide +kernel
    refine has_L (N := ["book", "goal", "low", "high", "mark", "one", "less"]) (ps := ["book", "goal", "low", "high"]) (d := dF 34 "spans_of" "spans_of") (Z.d 21 rfl rfl rfl) (Z.glo 16 rfl) ⟨rfl, rfl, rfl, hN, rfl, by decide +kernel, by decide +kernel⟩ (fun ds d ⟨_, _, _, _, _, _, _, _, _, _, _, _, h, _⟩ => by rw [h]; rfl) (fun _ _ _ _ _ _ us hl => match us, hl with | [_, _, _, _], _ => rfl) (fun f cd A outer s0 H E hr0 ds r hR Q q => ?_)
    obtain ⟨m, rs, g, lo, hi, ho, hg, hlo, hhi, hsub, hln, hn5, rfl, rfl⟩ := hR
    have e : lo = hi := asc_full hlo.asc hhi.asc hsub (by omega)
    subst e
    refine sd_if (td_val (pd_call (has_is_enough Z) hr0 (ad_cons (pdv 0) (ad_cons (pdv 1) (ad_cons (pdv 2) ad_nil))) ⟨_, _, _, _, ho, ?_, ?_, rfl, rfl⟩)) (fun hw => ?_) (fun hw => ?_)
    · exact hg
    · exact hlo
    · refine sd_retL (PL.is (pl_lst (ad_cons (pd_tup (ad_cons (pdv 2) (ad_cons (pdv 3) (ad_cons pd_bl ad_nil))) ?_) ad_nil) ?_) ?_) q
      · show 3 ≤ 2 ^ 24; decide
      · show 1 ≤ 2 ^ 24; decide
      · unfold spansM
        rw [hw]
        rfl
    · refine sd_on (sd_if (td_not (td_val (pd_call (has_is_enough Z) hr0 (ad_cons (pdv 0) (ad_cons (pdv 1) (ad_cons (pdv 3) ad_nil))) ⟨_, _, _, _, ho, ?_, ?_, rfl, rfl⟩))) (fun hw2 => ?_) (fun hw2 => ?_))
      · exact hg
      · exact hlo
      · refine sd_retL (PL.is (pl_lst (ad_cons (pd_tup (ad_cons (pdv 2) (ad_cons (pdv 3) (ad_cons pd_bl ad_nil))) ?_) ad_nil) ?_) ?_) q
        · show 3 ≤ 2 ^ 24; decide
        · show 1 ≤ 2 ^ 24; decide
        · unfold spansM
          rw [hw]
          rfl
      · rw [hw] at hw2
        cases hw2
  | succ n ih =>
    have hN : (["book", "goal", "low", "high", "mark", "one", "less"] : List Str).Nodup := by decide +kernel
    refine has_L (k := n + 5) (N := ["book", "goal", "low", "high", "mark", "one", "less"]) (ps := ["book", "goal", "low", "high"]) (d := dF 34 "spans_of" "spans_of") (Z.d 21 rfl rfl rfl) (Z.glo 16 rfl) ⟨rfl, rfl, rfl, hN, rfl, by decide +kernel, by decide +kernel⟩ (fun ds d ⟨_, _, _, _, _, _, _, _, _, _, _, _, h, _⟩ => by rw [h]; rfl) (fun _ _ _ _ _ _ us hl => match us, hl with | [_, _, _, _], _ => rfl) (fun f cd A outer s0 H E hrn ds r hR Q q => ?_)
    obtain ⟨m, rs, g, lo, hi, ho, hg, hlo, hhi, hsub, hln, hn5, rfl, rfl⟩ := hR
    have hr0 := hrn.mono (j := 5) (by omega)
    have h5 := ho.m5
    refine sd_if (td_val (pd_call (has_is_enough Z) hr0 (ad_cons (pdv 0) (ad_cons (pdv 1) (ad_cons (pdv 2) ad_nil))) ⟨_, _, _, _, ho, ?_, ?_, rfl, rfl⟩)) (fun hw => ?_) (fun hw => sd_on ?_)
    · exact hg
    · exact hlo
    · refine sd_retL (PL.is (pl_lst (ad_cons (pd_tup (ad_cons (pdv 2) (ad_cons (pdv 3) (ad_cons pd_bl ad_nil))) ?_) ad_nil) ?_) ?_) q
      · show 3 ≤ 2 ^ 24; decide
      · show 1 ≤ 2 ^ 24; decide
      · unfold spansM
        rw [hw]
        rfl
    refine sd_if (td_not (td_val (pd_call (has_is_enough Z) hr0 (ad_cons (pdv 0) (ad_cons (pdv 1) (ad_cons (pdv 3) ad_nil))) ⟨_, _, _, _, ho, ?_, ?_, rfl, rfl⟩))) (fun hw2 => ?_) (fun hw2 => sd_on ?_)
    · exact hg
    · exact hhi
    · refine sd_retL (PL.is (pl_lst (ad_cons (pd_tup (ad_cons (pdv 2) (ad_cons (pdv 3) (ad_cons pd_bl ad_nil))) ?_) ad_nil) ?_) ?_) q
      · show 3 ≤ 2 ^ 24; decide
      · show 1 ≤ 2 ^ 24; decide
      · unfold spansM
        have hw2 : enough m rs g hi = false := by simpa using hw2
        rw [hw, hw2]
        rfl
    have hw2 : enough m rs g hi = true := by simpa using hw2
    -- a mark of high that low lacks
    have hne : (hi.filter fun x => !decide (x ∈ lo)) ≠ [] := fun z => by
      have all : ∀ x ∈ hi, x ∈ lo := fun x hx => by
        by_cases h : x ∈ lo
        · exact h
        · have : x ∈ hi.filter fun x => !decide (x ∈ lo) := List.mem_filter.mpr ⟨hx, by rw [decide_eq_false h]; rfl⟩
          rw [z] at this
          cases this
      have e : lo = hi := asc_uniq hlo.asc hhi.asc fun x => ⟨hsub x, all x⟩
      rw [e, hw2] at hw
      cases hw
    obtain ⟨mk, tl, hmk⟩ : ∃ mk tl, (hi.filter fun x => !decide (x ∈ lo)) = mk :: tl := by
      cases h : (hi.filter fun x => !decide (x ∈ lo)) with
      | nil => exact absurd h hne
      | cons a r => exact ⟨a, r, rfl⟩
    have hin : mk ∈ hi.filter fun x => !decide (x ∈ lo) := by rw [hmk]; exact List.mem_cons_self
    have hmi := (List.mem_filter.mp hin).1
    have hml : mk ∉ lo := by
      have := (List.mem_filter.mp hin).2
      simpa using this
    have hd : (hi.filter fun x => !decide (x ∈ lo)).headD 0 = mk := by rw [hmk]; rfl
    have hb := hhi.rg mk hmi
    refine sd_set (i := 4) (d := .i mk) hN rfl (by first | exact .inl rfl | exact .inr rfl) (pd_ixL (PL.r (pl_lcI (own := [("one", 5)]) (is := [5]) (hi) (D.i) _ _ _ rfl hN (id_tup (pdv 3)) (blk_ok (by kernel_rfl)) (fun _ _ _ _ _ => pg_name (i := 5) hN rfl (by first | exact .inl rfl | exact .inr rfl)) (fun a ha => (gd_name)) (by decide) (fun a ha s0 H0 C cl fp => (td_notin (pdv 5) (pdv 2))) (fun a ha hp s0 H0 C cl fp => (pdv 5)) ?_)) pd_int ?_) ?_
    · exact hhi.sz h5
    · rw [hmk]; exact atI_zero
    refine sd_set (i := 6) hN rfl (by first | exact .inl rfl | exact .inr rfl) (pd_tupleL Z.tuple_ (PL.r (pl_lcI (own := [("one", 5)]) (is := [5]) (hi) (D.i) _ _ _ rfl hN (id_tup (pdv 3)) (blk_ok (by kernel_rfl)) (fun _ _ _ _ _ => pg_name (i := 5) hN rfl (by first | exact .inl rfl | exact .inr rfl)) (fun a ha => (gd_name)) (by decide) (fun a ha s0 H0 C cl fp => (td_neI (pdv 5) (pdv 4))) (fun a ha hp s0 H0 C cl fp => (pdv 5)) ?_))) ?_
    · exact hhi.sz h5
    have hj : OkS m (nrm m (lo ++ [mk])) := nrm_ok m _
    have hrg : ∀ x ∈ lo ++ [mk], 0 ≤ x ∧ x < m := fun x hx => by
      rcases List.mem_append.mp hx with hx | hx
      · exact hlo.rg x hx
      · rw [List.mem_singleton.mp hx]; exact hb
    have lj := nrm_snoc_len hlo hml hb.1 hb.2
    have lf : (hi.filter fun x => !decide (x = mk)).length < hi.length := filter_lt hmi (by simp)
    have lh := hhi.len
    refine sd_retL (PL.is (pl_lst (ad_starL (PL.r (pl_call ih hrn (ad_cons (pdv 0) (ad_cons (pdv 1) (ad_cons (pd_call (has_joined Z) hr0 (ad_cons (pdv 2) (ad_cons (pd_tup (ad_cons (pdv 4) ad_nil) ?_) ad_nil)) ⟨m, lo, [mk], hrg, ?_, rfl, rfl⟩) (ad_cons (pdv 3) ad_nil))))
        ⟨m, rs, g, nrm m (lo ++ [mk]), hi, ho, hg, hj, hhi, ?_, ?_, by omega, rfl, rfl⟩ (hjk := Nat.le_refl _))) (ad_starL (PL.r (pl_call ih hrn (ad_cons (pdv 0) (ad_cons (pdv 1) (ad_cons (pdv 2) (ad_cons (pdv 6) ad_nil)))) ⟨m, rs, g, lo, hi.filter fun x => !decide (x = mk), ho, hg, hlo, hhi.filter _, ?_, ?_, by omega, rfl, rfl⟩ (hjk := Nat.le_refl _))) ad_nil)) ?_) ?_) q
    · show 1 ≤ 2 ^ 24; decide
    · rw [List.length_append, List.length_singleton]
      have := hlo.len
      omega
    · intro x hx
      rcases List.mem_append.mp ((mem_nrm hrg).mp hx) with z | z
      · exact hsub x z
      · rw [List.mem_singleton.mp z]; exact hmi
    · omega
    · intro x hx
      refine List.mem_filter.mpr ⟨hsub x hx, ?_⟩
      have : x ≠ mk := fun e => hml (by rw [← e]; exact hx)
      simp [this]
    · omega
    · have a := spans_len m rs g n (nrm m (lo ++ [mk])) hi
      have b := spans_len m rs g n lo (hi.filter fun x => !decide (x = mk))
      have c := two_pow_le (k := n) (m := 5) (by omega) (Nat.le_refl 5)
      rw [List.append_nil, List.length_append, List.length_map, List.length_map]
      show _ ≤ 2 ^ 24
      omega
    · rw [List.append_nil, ← List.map_append]
      show _ = (spansM m rs g (n + 1) lo hi).map spD3
      rw [show spansM m rs g (n + 1) lo hi = if enough m rs g lo = true then [(lo, hi, true)] else if enough m rs g hi = true then
      spansM m rs g n (nrm m (lo ++ [(hi.filter fun x => !decide (x ∈ lo)).headD 0])) hi ++ spansM m rs g n lo (hi.filter fun x => !decide (x = (hi.filter fun x => !decide (x ∈ lo)).headD 0))
    else [(lo, hi, false)] from rfl, hw, if_neg Bool.false_ne_true, hw2, if_pos rfl, hd]
end
end G30
set_option Elab.async false
set_option linter.all false
set_option maxRecDepth 100000
set_option maxHeartbeats 4000000
set_option autoImplicit false
namespace G30
open PySem PySem.Spec PyProof.Rows L2 LamX StX SlX
section
variable {P : Program} {w : World} {K : PySem.W.Frag} {mg : Str → Option Value} {base : Heap} {T : List (Addr × Str)}
/-! ### Spans -/
theorem Zk.cls (Z : Zk K mg) {x : Str} (i : Nat) (h : fa[i]? = some (.cls x)) : Cls K (He.ga K x) := He.cls_ok (Z.ok i h)
theorem Zk.noat (Z : Zk K mg) {x f : Str} (i : Nat) (h : fa[i]? = some (.noat x f)) : NoAttr K (He.ga K x) f := He.noat_ok (Z.ok i h)
theorem Zk.mkr (Z : Zk K mg) {x : Str} (i : Nat) (h : fa[i]? = some (.mkr x)) : Mk K (He.ga K x) (He.fAd K (x, some "__init__")) := He.mkr_ok (Z.ok i h)
/-- an instance of C with the one field f -/
def InsAt (C : Addr) (f : Str) (H : Hp) (p l : Addr) : Prop := ∃ dx, H p = some (.ins C dx (putF f (.ref l) []))
/-- e gives some value -/
def PV (X : Cx) (T : List (Addr × Str)) (B : Addr) (e : Expr) (Γ : List (Option D)) (H : Hp) (W : V → Hp → Prop) : Prop := ∀ σ H1, Ex T H H1 → Sl T B H1 σ Γ → ∀ Q : VK, (∀ v H2, Ex T H1 H2 → W v H2 → Q v H2) → wE X e σ H1 Q
theorem PL.v {X : Cx} {B : Addr} {e : Expr} {Γ : List (Option D)} {H : Hp} {ds : List D} (h : PL X T B e Γ H ds) : PV X T B e Γ H fun v H2 => ∃ p vs, v = .ref p ∧ H2 p = some (.lst vs) ∧ AtL B H2 ds vs := fun σ H1 x s Q q => h σ H1 x s Q fun p vs H2 _ e2 e3 e4 => q _ H2 e2 ⟨p, vs, rfl, e3, e4⟩
theorem PD.v {X : Cx} {B : Addr} {e : Expr} {Γ : List (Option D)} {H : Hp} {d : D} (h : PD X T B e Γ H d) : PV X T B e Γ H fun v H2 => At B H2 d v := fun σ H1 x s Q q => h σ H1 x s Q q
/-- self.f = e -/
theorem sd_fld {X : Cx} {B : Addr} {Γ : List (Option D)} {H : Hp} {F : Ends} {e : Expr} {rest : List Stmt} {pos pos' p2 : Pos} {f x : Str} {W : V → Hp → Prop} {p C dx : Addr} {fs : List (Str × V)} (i : Nat) (hp : H p = some (.ins C dx fs)) (c : Cls X.K C) (n : NoAttr X.K C f) (hl : fs.length < 1000) (h : PV X T B e Γ H W)
    (k : ∀ H1 H2 v, Ex T H H1 → W v H1 → Exb T (fun b => b = p) H1 H2 → H2 p = some (.ins C dx (putF f v fs)) → (∀ b, b ≠ p → H2 b = H1 b) → SD X T B rest Γ H2 F) (hN : X.N[i]? = some x := by rfl) (hΓ : Γ[i]? = some (some (.r p)) := by rfl) (hv : Vis X.env.scope x := by first | exact .inl rfl | exact .inr (.inl rfl) | exact .inr (.inr rfl)) (hdb : (x == ("__debug__" : Str)) = false := by decide) (hcd : (x == ("__classdict__" : Str)) = false := by decide)
    (hs : swapsWith e (some (.Attribute (.Name x p2) f pos')) pos.line X.env = pure false := by rfl) : SD X T B (.Assign [.Attribute (.Name x p2) f pos'] e pos :: rest) Γ H F := fun σ H1 x1 s =>
  wS_cons (ps_fld (pe_var hN hv hdb hcd) (peS X e) hs) (h σ H1 x1 s _ fun v H2 e2 w => ⟨_, dkv i (s.mono e2) hΓ, by
    have hp2 : H2 p = some (.ins C dx fs) := (x1.trans e2).keep p _ hp (fun z => z) (fun ps z => by cases z)
    have em : Exb T (fun b => b = p) H2 (upd H2 p (.ins C dx (putF f v fs))) := (Exb.refl H2).mut rfl hp2 rfl (fun ps z => by cases z)
    exact ⟨p, C, dx, fs, rfl, hp2, c, n, hl, k H2 _ v (x1.trans e2) w em upd_same (fun b hb => upd_ne hb) σ _ (Exb.refl _) (s.mono ((Ex.to e2).trans em))⟩⟩)
/-- return C(e) -/
theorem sd_mk1 {X : Cx} {B : Addr} {Γ : List (Option D)} {H : Hp} {F : Ends} {e : Expr} {rest : List Stmt} {pos pos' p2 : Pos} {x : Str} {W : V → Hp → Prop} {C g : Addr} {sp : Sp} {k : Nat} (M : Mk X.K C g) (G : FnR X.prog X.w X.K X.mg X.base CX0 k g sp) (hr : Room (k + 1) X.A) (hm : X.mg x = some (.ref C)) (h : PV X T B e Γ H W)
    (q : ∀ H1 v px dx, Ex T H H1 → W v H1 → H1 px = none → Ex T H1 (upd (upd H1 dx (.own px)) px (.ins C dx [])) → sp [.ref px, v] (upd (upd H1 dx (.own px)) px (.ins C dx [])) (fun u H3 => u = .non ∧ F.rt (.ref px) H3) (fun _ _ _ => False)) (hg : Gl X x := by rfl) (hdb : (x == ("__debug__" : Str)) = false := by decide)
    (he : starEach [e] X.env = (false, eval e X.env) :: starEach [] X.env := by rfl) (hpl : (backTo pos (starEach [] X.env)).any (·.1) = false := by rfl) : SD X T B (.Return (some (.Call (.Name x p2) [e] [] pos)) pos' :: rest) Γ H F := fun σ H1 x1 s =>
  wS_cons (ps_ret (pe_makeR M G hr hg hm pass0 (pa_cons (peS X e) pa_nil he) hdb he hpl)) (h σ H1 x1 s _ fun v H2 e2 w px dx hnx hndx hne => q H2 v px dx (x1.trans e2) w hnx ((Ex.new hndx).trans (Ex.new (by rw [upd_ne (Ne.symm hne)]; exact hnx))))
/-- what an __init__ with one list argument does -/
def spInit (T : List (Addr × Str)) (B C : Addr) (f : Str) : Sp := fun vs H Q _ => ∃ (p dx l : Addr) (zs : List (List Int × List Int × Bool)) (xs : List V), vs = [.ref p, .ref l] ∧ Tabs T H ∧ H p = some (.ins C dx []) ∧ H l = some (.lst xs) ∧ AtL B H (zs.map spD3) xs ∧ zs.length ≤ 1000 ∧
  ∀ H' l' ys, Exb T (fun b => b = p) H H' → InsAt C f H' p l' → H' l' = some (.lst ys) → AtL B H' (zs.map spD3) ys → Q .non H'
theorem fnr_Spans (Z : Zk K mg) : FnR P w K mg base CX0 1 (He.fAd K ("Spans", some "__init__")) (spInit T (He.ga K "Book") (He.ga K "Spans") "rows") := by
  have hN : (["self", "rows", "row"] : List Str).Nodup := by decide +kernel
  refine (fnr_of (x := "__init__") (N := ["self", "rows", "row"]) (ps := ["self", "rows"]) (d := dM 33 0 "Spans" "__init__" "Spans.__init__") (k := 0) (Z.d 20 rfl rfl rfl) ⟨rfl, rfl, rfl, hN, rfl, by decide +kernel, by decide +kernel⟩ (fun vs H Q E ⟨p, dx, l, zs, xs, h, _⟩ => by rw [h]; rfl) (fun _ _ _ _ _ _ us hl => match us, hl with | [_, _], _ => rfl) fun f cd A outer s0 H E hr0 vs Q ⟨p, dx, l, zs, xs, e, t, hp, hl, hv, hz, q⟩ => ?_).1
  subst e
  have body : SD (bx P w K mg base ["self", "rows", "row"] (dM 33 0 "Spans" "__init__" "Spans.__init__") f cd A outer s0 H E) T (He.ga K "Book") (dM 33 0 "Spans" "__init__" "Spans.__init__").body [some (.r p), some (.r l), none] H { nx := fun _ H' => Q .non H', rt := Q } := by
    refine sd_fld 0 hp (Z.cls 96 rfl) (Z.noat 101 rfl) (by show 0 < 1000; decide) (PL.v (pl_lc (own := [("row", 2)]) (is := [2]) (zs) (spD3) _ _ rfl hN (id_listR (prv 1 (SqL.of hl) hv)) (blk_ok (by kernel_rfl)) (fun _ _ _ _ _ => pg_name (i := 2) hN rfl (by first | exact .inl rfl | exact .inr rfl)) (fun a ha => (gd_name)) (by decide) (fun a ha s0 H0 C cl fp => (pd_tupleT Z.tuple_ (pdv 2))) ?_)) ?_
    · show zs.length < 2 ^ 24
      omega
    rintro H1 H2 v e1 ⟨l', ys, rfl, hl', hv'⟩ em hp2 hk
    have hp1 : H1 p = some (.ins (He.ga K "Spans") dx []) := e1.keep p _ hp (fun z => z) (fun ps z => by cases z)
    have hlp : l' ≠ p := fun z => by
      rw [z, hp1] at hl'
      cases hl'
    exact sd_nil fun σ H3 e3 s3 => q H3 l' ys (((Ex.to e1).trans em).trans (Ex.to e3)) ⟨dx, e3.keep p _ hp2 (fun z => z) (fun ps z => by cases z)⟩ (Ex.lst e3 (by rw [hk l' hlp]; exact hl')) ((hv'.mono em).mono e3)
  refine body _ H (Exb.refl _) ⟨t, rfl, fun i d h => ?_⟩
  match i, h with
  | 0, h => cases h; exact ⟨_, rfl, rfl⟩
  | 1, h => cases h; exact ⟨_, rfl, rfl⟩
  | 2, h => cases h
/-- the spans of a book: a new instance -/
def spSpans (T : List (Addr × Str)) (B C : Addr) : Sp := fun vs H Q _ => ∃ (m : Nat) (rs : Rules) (g : List Int), OkR m rs ∧ OkS m g ∧ AtL B H [bkD m rs, sD g] vs ∧ Tabs T H ∧
  ∀ H' p l ys, Ex T H H' → InsAt C "rows" H' p l → H' l = some (.lst ys) → AtL B H' ((spansM m rs g m [] (mks m)).map spD3) ys → Q (.ref p) H'
theorem has_spans (Z : Zk K mg) : Has P w K mg base 12 "spans" (spSpans T (He.ga K "Book") (He.ga K "Spans")) := by
  have hN : (["book", "goal"] : List Str).Nodup := by decide +kernel
  obtain ⟨h1, h2⟩ := fnr_of (x := "spans") (P := P) (w := w) (base := base) (sp := spSpans T (He.ga K "Book") (He.ga K "Spans")) (N := ["book", "goal"]) (ps := ["book", "goal"]) (d := dF 35 "spans" "spans") (k := 11) (Z.d 22 rfl rfl rfl) ⟨rfl, rfl, rfl, hN, rfl, by decide +kernel, by decide +kernel⟩ (fun vs H Q E ⟨m, rs, g, _, _, h, _⟩ => by rw [h.len]; rfl) (fun _ _ _ _ _ _ us hl => match us, hl with | [_, _], _ => rfl)
    fun f cd A outer s0 H E hr0 vs Q ⟨m, rs, g, ho, hg, ha, t, q⟩ => by
      have h5 := ho.m5
      have body : SD (bx P w K mg base ["book", "goal"] (dF 35 "spans" "spans") f cd A outer s0 H E) T (He.ga K "Book") (dF 35 "spans" "spans").body (startG ["book", "goal"] [bkD m rs, sD g]) H { nx := fun _ H' => Q .non H', rt := Q } := by
        refine sd_expr ((pd_call (has_check_goal Z) hr0 (ad_cons (pdv 0) (ad_cons (pdv 1) ad_nil)) ⟨_, _, _, ho, hg, rfl, rfl⟩)) ?_
        refine sd_mk1 (Z.mkr 91 rfl) (fnr_Spans (T := T) Z) (hr0.mono (by decide)) (Z.glo 67 rfl) (PL.v (pl_call (has_spans_of Z m) hr0 (ad_cons (pdv 0) (ad_cons (pdv 1) (ad_cons (pd_tup ad_nil (Nat.zero_le _)) (ad_cons (PD.is (pd_tupRg1 rfl Z.tuple_ Z.range (pd_bkM Z.bk (pdv 0)) ?_) (by rw [Int.toNat_natCast, rgD_mks])) ad_nil))))
            ⟨m, rs, g, [], mks m, ho, hg, ⟨List.Pairwise.nil, fun x hx => by (cases hx), fun x hx => by (cases hx)⟩, mks_ok m, fun x hx => by (cases hx), by rw [mks_len]; exact Nat.le_add_left _ _, h5, rfl, rfl⟩ (hjk := by omega))) ?_
        · omega
        rintro H1 v px dx e1 ⟨l, ys, rfl, hl, hv⟩ hnx en
        refine ⟨px, dx, l, spansM m rs g m [] (mks m), ys, rfl, (e1.trans en).tabs t, upd_same, Ex.lst en hl, hv.mono en, ?_, fun H3 l' zs e3 hi hl' hz' => ⟨rfl, ?_⟩⟩
        · have := spans_len m rs g m [] (mks m)
          have := two_pow_le (Nat.le_refl m) h5
          omega
        · exact q H3 px l' zs (((Ex.to (e1.trans en)).trans e3).drop fun b hb => by rw [hb]; exact e1.free (Nw.of hnx)) hi hl' hz'
      exact body _ H (Exb.refl _) (sl_start t ha)
  exact ⟨_, Z.glo 17 rfl, h2, h1⟩
end
end G30
set_option Elab.async false
set_option linter.all false
set_option maxRecDepth 100000
set_option maxHeartbeats 4000000
set_option autoImplicit false
namespace G30
open PySem PySem.Spec PyProof.Rows L2 LamX StX SlX
section
variable {P : Program} {w : World} {K : PySem.W.Frag} {mg : Str → Option Value} {base : Heap} {T : List (Addr × Str)}
/-! a promise with an open answer -/
def spE (T : List (Addr × Str)) (B : Addr) (Pre : List D → Prop) (R : List D → D → Prop) : Sp := fun vs H Q _ => ∃ ds, AtL B H ds vs ∧ Tabs T H ∧ Pre ds ∧ ∀ d v H', R ds d → Ex T H H' → At B H' d v → Q v H'
theorem has_E {x : Str} {N ps : List Str} {k : Nat} {B : Addr} {d : He.DefD} {Pre : List D → Prop} {R : List D → D → Prop} (D0 : DefOk K mg x d) (g : mg x = some (.ref (He.fAd K d.at_))) (S : FnScope N ps d.scope) (hlen : ∀ ds, Pre ds → ds.length = ps.length)
    (hb : ∀ (kV doc pm : Value) (an : Option Addr) (cdv ct : Value) (us : List Value), us.length = ps.length → bindArgs (PySem.W.fnOf d.name d.qual d.params d.body d.scope .none kV doc pm an cdv ct) ⟨us, []⟩ = pure (ps.zip us))
    (body : ∀ f cd A outer s H E, Room k (bx P w K mg base N d f cd A outer s H E).A → ∀ ds, Pre ds → ∀ Q : VK, (∀ d v H', R ds d → Ex T H H' → At B H' d v → Q v H') → SD (bx P w K mg base N d f cd A outer s H E) T B d.body (startG N ds) H { nx := fun _ H' => Q .non H', rt := Q }) :
    Has P w K mg base (k + 1) x (spE T B Pre R) := by
  obtain ⟨h1, h2⟩ := fnr_of (N := N) (ps := ps) (k := k) (P := P) (w := w) (base := base) (sp := spE T B Pre R) D0 S (fun vs H Q E ⟨ds, a, t, hR, _⟩ => by rw [a.len]; exact hlen ds hR) hb fun f cd A outer s H E hr vs Q ⟨ds, a, t, hR, q⟩ => body f cd A outer s H E hr ds hR Q q _ H (Exb.refl _) (sl_start t a)
  exact ⟨_, g, h2, h1⟩
theorem pv_callE {X : Cx} {B : Addr} {Γ : List (Option D)} {H : Hp} {ds : List D} {e : Expr} {es : List Expr} {p pos : Pos} {j k : Nat} {x : Str} {Pre : List D → Prop} {R : List D → D → Prop} (F : Has X.prog X.w X.K X.mg X.base j x (spE T B Pre R)) (hr : Room k X.A) (ha : AD X T B (e :: es) Γ H ds) (hP : Pre ds) (hjk : j ≤ k := by decide) (hg : Gl X x := by rfl) (hd : (x == ("__debug__" : Str)) = false := by decide)
    (he : starEach (e :: es) X.env = (false, eval e X.env) :: starEach es X.env := by rfl) (hpl : (backTo pos (starEach es X.env)).any (·.1) = false := by rfl) : PV X T B (.Call (.Name x p) (e :: es) [] pos) Γ H (fun v H2 => ∃ d, R ds d ∧ At B H2 d v) := fun σ H1 x1 s Q q => by
  obtain ⟨f, hm, hk, F⟩ := F
  exact PE.w (pe_callR F (hr.mono hjk) hk hg hm pass0 (paS X (e :: es)) hd he hpl) (ha σ H1 x1 s _ fun vs H2 e2 at2 => ⟨ds, at2, e2.tabs s.tabs, hP, fun d v H' hR e3 at3 => q v H' (e2.trans e3) ⟨d, hR, at3⟩⟩)
/-- x = e, an open answer -/
theorem sd_setV {X : Cx} {B : Addr} {Γ : List (Option D)} {H : Hp} {F : Ends} {e : Expr} {rest : List Stmt} {pos pos' : Pos} {x : Str} {i : Nat} {R : D → Prop} (hN : X.N.Nodup) (hi : X.N[i]? = some x) (hx : Loc X.env.scope x) (h : PV X T B e Γ H (fun v H2 => ∃ d, R d ∧ At B H2 d v)) (k : ∀ d, R d → SD X T B rest (Γ.set i (some d)) H F) (hs : swapsWith e (some (.Name x pos')) pos.line X.env = pure false := by rfl)
    (hf : X.fn x = true ∨ X.env.scope.names.lookup x = some .local := by first | exact .inl rfl | exact .inr rfl) : SD X T B (.Assign [.Name x pos'] e pos :: rest) Γ H F := fun σ H1 x s =>
  wS_cons (ps_set hN hi hx (peS X e) hs hf) (h σ H1 x s _ fun v H2 e2 ⟨d, hR, at2⟩ => k d hR _ H2 (x.trans e2) ((s.mono e2).set at2))
/-! ### exchange -/
def R_with_mark (ds : List D) (d : D) : Prop := ∃ (m : Nat) (s : List Int) (k : Int), (∀ x ∈ s ++ [k], 0 ≤ x ∧ x < m) ∧ s.length < 60 ∧ ds = [sD s, .i k] ∧ d = sD (nrm m (s ++ [k]))
theorem star1 (s : List Int) (k : Int) : s.map D.i ++ [D.i k] = (s ++ [k]).map D.i := by rw [List.map_append]; rfl
theorem has_with_mark_exchange (Z : Zk K mg) : Has P w K mg base 1 "with_mark_exchange" (spD T (He.ga K "Book") R_with_mark) := by
  have hN : (["thing", "mark", "one"] : List Str).Nodup := by decide +kernel
  refine has_D (N := ["thing", "mark", "one"]) (ps := ["thing", "mark"]) (d := dF 51 "with_mark_exchange" "with_mark") (Z.d 35 rfl rfl rfl) (Z.glo 30 rfl) ⟨rfl, rfl, rfl, hN, rfl, by decide +kernel, by decide +kernel⟩ ?hlen (fun _ _ _ _ _ _ us hl => match us, hl with | [_, _], _ => rfl) (fun f cd A outer s0 H E hr0 ds r hR Q q => ?body)
  case hlen => exact fun ds d ⟨_, _, _, _, _, h, _⟩ => by rw [h]; rfl
  obtain ⟨m, s, mk, hm, hz, rfl, rfl⟩ := hR
  have hl : (s ++ [mk]).length < 64 := by rw [List.length_append, List.length_singleton]; omega
  have hk := foldP_keys (fun a : Int => a) (fun _ => D.b true) (s ++ [mk])
  refine sd_ret (pd_tupleL Z.tuple_ (PL.r (pl_sortedN (ks := foldP (fun a : Int => a) (fun _ => D.b true) (s ++ [mk])) rfl Z.sorted (pn_dc (own := [("one", 2)]) (is := [2]) (s ++ [mk]) (D.i) _ _ _ rfl hN (ID.is (id_tup (pd_tup (ad_starT (pdv 0) (ad_cons (pdv 1) ad_nil)) ?_)) (star1 s mk)) (blk_ok (by kernel_rfl)) (fun _ _ _ _ _ => pg_name (i := 2) hN rfl (by first | exact .inl rfl | exact .inr rfl)) (fun a ha => gd_name) (by decide) (fun a ha s0 H0 C cl fp => (pdv 2)) (fun a ha s0 H0 C cl fp => pd_bl) ?_) ?_ ?_ (nrm_ok m (s ++ [mk])).asc ?_))) q
  · rw [star1, List.length_map]
    show (s ++ [mk]).length ≤ 2 ^ 24
    omega
  · show (s ++ [mk]).length < 2 ^ 24
    omega
  · have := hk.2.2
    omega
  · exact hk.2.1
  · intro x
    rw [mem_nrm hm, hk.1, List.map_id']
def restM (m : Nat) (s : List Int) : List Int := (mks m).filter fun k => !decide (k ∈ s)
theorem mem_restM {m : Nat} {s : List Int} {k : Int} (h : k ∈ restM m s) : 0 ≤ k ∧ k < m ∧ k ∉ s := by
  obtain ⟨h1, h2⟩ := List.mem_filter.mp h
  exact ⟨(mem_mks.mp h1).1, (mem_mks.mp h1).2, by simpa using h2⟩
theorem restM_nd (m : Nat) (s : List Int) : (restM m s).Nodup := ((mks_ok m).filter _).nodup
theorem restM_len (m : Nat) (s : List Int) : (restM m s).length ≤ m := ((mks_ok m).filter _).len
theorem snoc_rg {m : Nat} {s : List Int} {k : Int} (h : OkS m s) (h0 : 0 ≤ k) (h1 : k < m) : ∀ x ∈ s ++ [k], 0 ≤ x ∧ x < m := fun x hx => by
  rcases List.mem_append.mp hx with hx | hx
  · exact h.rg x hx
  · rw [List.mem_singleton.mp hx]; exact ⟨h0, h1⟩
noncomputable def arE (m : Nat) (rs : Rules) (s : List Int) (k : Int) : List Int := clo m rs (nrm m (s ++ [k]))
noncomputable def badE (m : Nat) (rs : Rules) (s : List Int) (a b : Int) : Bool := decide (b ∈ arE m rs s a) && !decide (a ∈ arE m rs s b)
def P_oneway (ds : List D) : Prop := ∃ (m : Nat) (rs : Rules) (s : List Int), OkR m rs ∧ OkS m s ∧ ds = [bkD m rs, sD s]
/-- none, or a pair that f tells -/
def RPair (f : Nat → Rules → List Int → Int → Int → Bool) (ds : List D) (d : D) : Prop := ∀ (m : Nat) (rs : Rules) (s : List Int), ds = [bkD m rs, sD s] → (d = .n ∧ ∀ a ∈ restM m s, ∀ b ∈ restM m s, f m rs s a b = false) ∨ ∃ a b, d = .t [.i a, .i b] ∧ a ∈ restM m s ∧ b ∈ restM m s ∧ f m rs s a b = true
theorem sD_inj : ∀ {s t : List Int}, sD s = sD t → s = t := fun {s t} h => by
  injection h with h
  have key : ∀ {a b : List Int}, a.map D.i = b.map D.i → a = b := fun {a b} => by
    induction a generalizing b with
    | nil => intro h; cases b with
      | nil => rfl
      | cons _ _ => cases h
    | cons x a ih => intro h; cases b with
      | nil => cases h
      | cons y b => injection h with h1 h2; injection h1 with h1; rw [h1, ih h2]
  exact key h
theorem ruL_inj : ∀ {a b : Rules}, a.map ruD = b.map ruD → a = b
  | [], [], _ => rfl
  | [], _ :: _, h => by cases h
  | _ :: _, [], h => by cases h
  | x :: a, y :: b, h => by
    injection h with h1 h2
    injection h1 with h1
    injection h1 with h3 h4
    injection h4 with h4 _
    have e1 : x.1 = y.1 := sD_inj (by rw [sD, sD]; exact congrArg D.t (by injection h3))
    have e2 : x.2 = y.2 := sD_inj (by rw [sD, sD]; exact congrArg D.t (by injection h4))
    rw [ruL_inj h2, show x = y from Prod.ext e1 e2]
theorem bkD_inj {m m' : Nat} {rs rs' : Rules} (h : bkD m rs = bkD m' rs') : m = m' ∧ rs = rs' := by
  injection h with h1 h2
  injection h2 with h2
  exact ⟨h1, ruL_inj h2⟩
theorem args_inj {m m' : Nat} {rs rs' : Rules} {s s' : List Int} (h : [bkD m rs, sD s] = [bkD m' rs', sD s']) : m = m' ∧ rs = rs' ∧ s = s' := by
  injection h with h1 h2
  injection h2 with h2 _
  exact ⟨(bkD_inj h1).1, (bkD_inj h1).2, sD_inj h2⟩
theorem look_map {vf : Int → D} : ∀ {l : List Int} {a : Int}, a ∈ l → (l.map fun k => (k, vf k)).lookup a = some (vf a)
  | [], _, h => by cases h
  | x :: l, a, h => by
    rw [List.map_cons, List.lookup_cons]
    by_cases q : a = x
    · rw [show (a == x) = true by rw [q]; exact beq_self_eq_true _, q]
    · rw [show (a == x) = false from beq_false_of_ne q]
      exact look_map ((List.mem_cons.mp h).resolve_left q)
theorem has_oneway_at (Z : Zk K mg) : Has P w K mg base 3 "oneway_at" (spE T (He.ga K "Book") P_oneway (RPair badE)) := by
  have hN : (["book", "thing", "rest", "mark", "around", "one", "other"] : List Str).Nodup := by decide +kernel
  refine has_E (N := ["book", "thing", "rest", "mark", "around", "one", "other"]) (ps := ["book", "thing"]) (d := dF 55 "oneway_at" "oneway_at") (Z.d 38 rfl rfl rfl) (Z.glo 31 rfl) ⟨rfl, rfl, rfl, hN, rfl, by decide +kernel, by decide +kernel⟩ (fun ds ⟨_, _, _, _, _, h⟩ => by rw [h]; rfl) (fun _ _ _ _ _ _ us hl => match us, hl with | [_, _], _ => rfl) (fun f cd A outer s0 H E hr0 ds hP Q q => ?_)
  obtain ⟨m, rs, s, ho, hs, rfl⟩ := hP
  have h5 := ho.m5
  have sl := hs.len
  refine sd_setLcI (i := 2) (own := [("mark", 3)]) (is := [3]) (mks m) (D.i) _ _ _ rfl hN rfl rfl (sw_true rfl rfl rfl (by decide +kernel)) (ID.is (id_range1 Z.range (pd_bkM Z.bk (pdv 0)) ?_) (rg_mks m)) (blk_ok (by kernel_rfl)) (fun _ _ _ _ _ => pg_name (i := 3) hN rfl (by first | exact .inl rfl | exact .inr rfl)) (fun a ha => (gd_name)) (by decide) (fun a ha s0 H0 C cl fp => (td_notin (pdv 3) (pdv 1))) (fun a ha hp s0 H0 C cl fp => (pdv 3)) ?_ ?_
  · omega
  · rw [mks_len]
    show m < 2 ^ 24
    omega
  intro pr vr H1 hn1 e1 hpr hvr
  have hvr : AtL (He.ga K "Book") H1 ((restM m s).map D.i) vr := hvr
  refine sd_setDc (i := 4) (own := [("mark", 3)]) (is := [3]) (restM m s) (D.i) _ _ _ rfl hN rfl rfl (sw_trueD rfl rfl rfl (by decide +kernel)) (id_listR (prv 2 (SqL.of hpr) hvr)) (blk_ok (by kernel_rfl)) (fun _ _ _ _ _ => pg_name (i := 3) hN rfl (by first | exact .inl rfl | exact .inr rfl)) (fun a ha => gd_name) (by decide) (fun a ha s0 H0 C cl fp => (pdv 3)) (fun a ha s0 H0 C cl fp => (pd_call (has_closure Z) hr0 (ad_cons (pd_bkR Z.bk (pdv 0)) (ad_cons (pd_call (has_with_mark_exchange Z) hr0 (ad_cons (pdv 1) (ad_cons (pdv 3) ad_nil)) ⟨m, _, _, ?_, ?_, rfl, rfl⟩) ad_nil)) ⟨_, _, _, ho, ?_, ?_, rfl, rfl⟩)) ?_ ?_
  · exact snoc_rg hs (mem_restM ha).1 (mem_restM ha).2.1
  · omega
  · exact (nrm_ok m _).rg
  · exact (nrm_ok m _).l64 h5
  · have := restM_len m s
    show (restM m s).length < 2 ^ 24
    omega
  intro pa ka H2 hn2 e2 hpa hka
  rw [foldP_new _ _ _ (by rw [List.map_id']; exact restM_nd m s)] at hka
  have hka : KvL (He.ga K "Book") H2 ((restM m s).map fun k => (k, sD (arE m rs s k))) ka := hka
  have hpr2 := Ex.lst e2 hpr
  have hvr2 := hvr.mono e2
  refine sd_for (S := Nob) (restM m s) D.i (fun k _ => ∀ a ∈ (restM m s).take k, ∀ b ∈ restM m s, badE m rs s a b = false) (fun _ => [some (bkD m rs), some (sD s), some (.r pr), none, some (.r pa), none, none]) (fun _ a => [some (bkD m rs), some (sD s), some (.r pr), none, some (.r pa), some (.i a), none]) PassesOwn.never rfl
    (id_listR (prv 2 (SqL.of hpr2) hvr2)) (pg_name (i := 5) hN rfl (by first | exact .inl rfl | exact .inr rfl)) (fun k s _ => gd_name) (fun _ _ a ha => by (rw [List.take_zero] at ha; cases ha)) (gle (by repeat' first | exact True.intro | exact rfl | refine And.intro ?_ ?_)) (fun _ _ _ h _ => h) ?_ ?_
  · rintro H3 e3 k a H4 hk eb hM
    have ham : a ∈ restM m s := List.mem_of_getElem? hk
    have tk : (restM m s).take (k + 1) = (restM m s).take k ++ [a] := by rw [List.take_add_one, hk]; rfl
    have e4 := e3.trans eb
    refine sd_for (S := Nob) (restM m s) D.i (fun j _ => ∀ b ∈ (restM m s).take j, badE m rs s a b = false) (fun _ => [some (bkD m rs), some (sD s), some (.r pr), none, some (.r pa), some (.i a), none]) (fun _ b => [some (bkD m rs), some (sD s), some (.r pr), none, some (.r pa), some (.i a), some (.i b)]) PassesOwn.never rfl
      (id_listR (prv 2 (SqL.of (Ex.lst e4 hpr2)) (hvr2.mono e4))) (pg_name (i := 6) hN rfl (by first | exact .inl rfl | exact .inr rfl)) (fun k s _ => gd_name) (fun _ _ b hb => by (rw [List.take_zero] at hb; cases hb)) (gle (by repeat' first | exact True.intro | exact rfl | refine And.intro ?_ ?_)) (fun _ _ _ h _ => h) ?_ ?_
    · rintro H5 e5 j b H6 hj eb6 hM6
      have hbm : b ∈ restM m s := List.mem_of_getElem? hj
      have tk2 : (restM m s).take (j + 1) = (restM m s).take j ++ [b] := by rw [List.take_add_one, hj]; rfl
      have e6 := e4.trans (e5.trans eb6)
      refine sd_if (l := badE m rs s a b) (WD.t (wd_and (td_in (pdv 6) (pd_dget 4 hr0 (Ex.dk e6 hpa) (hka.mono e6) (pdv 5) (look_map ham))) (fun _ => (wd_and1 (td_notin (pdv 5) (pd_dget 4 hr0 (Ex.dk e6 hpa) (hka.mono e6) (pdv 6) (look_map hbm))))))) (fun hw => ?_) (fun hw => ?_)
      · refine sd_ret (pd_tup (ad_cons (pdv 5) (ad_cons (pdv 6) ad_nil)) ?_) ?_
        · show 2 ≤ 2 ^ 24; decide
        intro v H7 e7 a7
        refine q (.t [.i a, .i b]) v H7 (fun m' rs' s' he => ?_) (((e1.trans e2).trans e6).trans e7) a7
        obtain ⟨rfl, rfl, rfl⟩ := args_inj he
        exact .inr ⟨a, b, rfl, ham, hbm, hw⟩
      · refine sd_nil fun σ H7 e7 s7 => wS_nil ⟨eb6.trans e7, s7.gle (gle (by repeat' first | exact True.intro | exact rfl | refine And.intro ?_ ?_)), fun b' hb' => ?_⟩
        rw [tk2] at hb'
        rcases List.mem_append.mp hb' with z | z
        · exact hM6 b' z
        · rw [List.mem_singleton.mp z]; exact hw
    · intro H5 eb5 hM5
      rw [List.take_length] at hM5
      refine sd_nil fun σ H7 e7 s7 => ⟨eb.trans (eb5.trans e7), s7.gle (gle (by repeat' first | exact True.intro | exact rfl | refine And.intro ?_ ?_)), fun a' ha' => ?_⟩
      rw [tk] at ha'
      rcases List.mem_append.mp ha' with z | z
      · exact hM a' z
      · rw [List.mem_singleton.mp z]; exact hM5
  · intro H3 eb3 hM3
    rw [List.take_length] at hM3
    refine sd_ret pd_non ?_
    intro v H7 e7 a7
    refine q .n v H7 (fun m' rs' s' he => ?_) (((e1.trans e2).trans eb3).trans e7) a7
    obtain ⟨rfl, rfl, rfl⟩ := args_inj he
    exact .inl ⟨rfl, hM3⟩
end
end G30
set_option Elab.async false
set_option linter.all false
set_option maxRecDepth 100000
set_option maxHeartbeats 4000000
set_option autoImplicit false
namespace G30
open PySem PySem.Spec PyProof.Rows L2 LamX StX SlX
section
variable {P : Program} {w : World} {K : PySem.W.Frag} {mg : Str → Option Value} {base : Heap} {T : List (Addr × Str)}
noncomputable def rankF (m : Nat) (rs : Rules) (ss : List Int) : List Int := ss.foldl (fun h x => if decide (x ∈ clo m rs h) = true then h else h ++ [x]) []
theorem rankF_snoc (m : Nat) (rs : Rules) (ss : List Int) (x : Int) : rankF m rs (ss ++ [x]) = if decide (x ∈ clo m rs (rankF m rs ss)) = true then rankF m rs ss else rankF m rs ss ++ [x] := by
  unfold rankF
  rw [List.foldl_append]
  rfl
theorem rankF_sub (m : Nat) (rs : Rules) : ∀ ss : List Int, (∀ x ∈ rankF m rs ss, x ∈ ss) ∧ (rankF m rs ss).length ≤ ss.length := fun ss => by
  refine snoc_ind (motive := fun ss => (∀ x ∈ rankF m rs ss, x ∈ ss) ∧ (rankF m rs ss).length ≤ ss.length) ⟨fun x h => h, Nat.le_refl _⟩ (fun ss x ih => ?_) ss
  rw [rankF_snoc, List.length_append, List.length_singleton]
  split
  · exact ⟨fun y hy => List.mem_append_left _ (ih.1 y hy), by omega⟩
  · refine ⟨fun y hy => ?_, by rw [List.length_append, List.length_singleton]; omega⟩
    rcases List.mem_append.mp hy with hy | hy
    · exact List.mem_append_left _ (ih.1 y hy)
    · exact List.mem_append_right _ hy
noncomputable def rankM (m : Nat) (rs : Rules) (s : List Int) : Nat := (rankF m rs s).length
def R_rank_of (ds : List D) (d : D) : Prop := ∃ (m : Nat) (rs : Rules) (s : List Int), OkR m rs ∧ OkS m s ∧ ds = [bkD m rs, sD s] ∧ d = .i (rankM m rs s)
theorem has_rank_of (Z : Zk K mg) : Has P w K mg base 3 "rank_of" (spD T (He.ga K "Book") R_rank_of) := by
  have hN : (["book", "thing", "held", "mark"] : List Str).Nodup := by decide +kernel
  refine has_D (N := ["book", "thing", "held", "mark"]) (ps := ["book", "thing"]) (d := dF 56 "rank_of" "rank_of") (Z.d 39 rfl rfl rfl) (Z.glo 32 rfl) ⟨rfl, rfl, rfl, hN, rfl, by decide +kernel, by decide +kernel⟩ ?hlen (fun _ _ _ _ _ _ us hl => match us, hl with | [_, _], _ => rfl) (fun f cd A outer s0 H E hr0 ds r hR Q q => ?body)
  case hlen => exact fun ds d ⟨_, _, _, _, _, h, _⟩ => by rw [h]; rfl
  obtain ⟨m, rs, s, ho, hs, rfl, rfl⟩ := hR
  have h5 := ho.m5
  have sl := hs.len
  refine sd_set (i := 2) (d := sD []) hN rfl (.inl rfl) (pd_tup ad_nil (Nat.zero_le _)) ?_
  refine sd_for (S := Nob) s D.i (fun _ _ => True) (fun k => [some (bkD m rs), some (sD s), some (sD (rankF m rs (s.take k))), none]) (fun k x => [some (bkD m rs), some (sD s), some (sD (rankF m rs (s.take k))), some (.i x)]) PassesOwn.never rfl
    (id_tup (pdv 1)) (pg_name (i := 3) hN rfl (.inl rfl)) (fun k s _ => gd_name) (fun _ _ => True.intro) (by rw [List.take_zero]; exact (gle (by repeat' first | exact True.intro | exact rfl | refine And.intro ?_ ?_))) (fun _ _ _ _ _ => True.intro) ?_ ?_
  · rintro H2 e2 k x H' hk eb _
    have hx : x ∈ s := List.mem_of_getElem? hk
    have tk : s.take (k + 1) = s.take k ++ [x] := by rw [List.take_add_one, hk]; rfl
    have rf := rankF_sub m rs (s.take k)
    have rl : (rankF m rs (s.take k)).length ≤ 5 := by
      have := rf.2
      rw [List.length_take] at this
      omega
    refine sd_if (l := !decide (x ∈ clo m rs (rankF m rs (s.take k)))) (td_notin (pdv 3) (pd_call (has_closure Z) hr0 (ad_cons (pd_bkR Z.bk (pdv 0)) (ad_cons (pdv 2) ad_nil)) ⟨_, _, _, ho, ?_, ?_, rfl, rfl⟩)) (fun hw => ?_) (fun hw => ?_)
    · exact fun y hy => hs.rg y (List.mem_of_mem_take (rf.1 y hy))
    · omega
    · refine sd_set (i := 2) hN rfl (.inl rfl) (PD.is (pd_tup (ad_starT (pdv 2) (ad_cons (pdv 3) ad_nil)) ?_) (congrArg D.t (star1 _ x))) ?_
      · rw [star1, List.length_map, List.length_append, List.length_singleton]
        show _ ≤ 2 ^ 24
        omega
      refine sd_nil fun σ H4 e4 s4 => wS_nil ⟨eb.trans e4, ?_, True.intro⟩
      show Sl T (He.ga K "Book") H4 σ [some (bkD m rs), some (sD s), some (sD (rankF m rs (s.take (k + 1)))), none]
      rw [tk, rankF_snoc, if_neg (by rw [Bool.not_eq_true']  at hw; rw [hw]; exact Bool.false_ne_true)]
      exact s4.gle (gle (by repeat' first | exact True.intro | exact rfl | refine And.intro ?_ ?_))
    · refine sd_nil fun σ H4 e4 s4 => wS_nil ⟨eb.trans e4, ?_, True.intro⟩
      show Sl T (He.ga K "Book") H4 σ [some (bkD m rs), some (sD s), some (sD (rankF m rs (s.take (k + 1)))), none]
      rw [tk, rankF_snoc, if_pos (by simpa using hw)]
      exact s4.gle (gle (by repeat' first | exact True.intro | exact rfl | refine And.intro ?_ ?_))
  · intro H' eb _
    rw [List.take_length]
    exact sd_ret (PD.is (pd_lenT Z.len (pdv 2)) (by rw [List.length_map]; rfl)) fun v H3 e3 a3 => q v H3 (eb.trans e3) a3
/-! ### geometry -/
def R_with_mark_g (ds : List D) (d : D) : Prop := ∃ (m : Nat) (s : List Int) (k : Int), OkS m s ∧ m ≤ 5 ∧ 0 ≤ k ∧ k < m ∧ k ∉ s ∧ ds = [sD s, .i k] ∧ d = sD (nrm m (s ++ [k]))
theorem nodup_snoc {s : List Int} {k : Int} (h : s.Nodup) (hk : k ∉ s) : (s ++ [k]).Nodup := by
  rw [List.nodup_append]
  exact ⟨h, by simp, fun a ha b hb => by rw [List.mem_singleton.mp hb]; rintro rfl; exact hk ha⟩
theorem has_with_mark_geometry (Z : Zk K mg) : Has P w K mg base 1 "with_mark_geometry" (spD T (He.ga K "Book") R_with_mark_g) := by
  have hN : (["thing", "mark"] : List Str).Nodup := by decide +kernel
  refine has_D (N := ["thing", "mark"]) (ps := ["thing", "mark"]) (d := dF 63 "with_mark_geometry" "with_mark") (Z.d 45 rfl rfl rfl) (Z.glo 38 rfl) ⟨rfl, rfl, rfl, hN, rfl, by decide +kernel, by decide +kernel⟩ ?hlen (fun _ _ _ _ _ _ us hl => match us, hl with | [_, _], _ => rfl) (fun f cd A outer s0 H E hr0 ds r hR Q q => ?body)
  case hlen => exact fun ds d ⟨_, _, _, _, _, _, _, _, h, _⟩ => by rw [h]; rfl
  obtain ⟨m, s, mk, hs, h5, h0, h1, hk, rfl, rfl⟩ := hR
  have sl := hs.len
  have hl : (s ++ [mk]).length < 64 := by rw [List.length_append, List.length_singleton]; omega
  refine sd_ret (pd_tupleL Z.tuple_ (PL.r (pl_sortedL (ns := s ++ [mk]) Z.sorted (PL.r (PL.is (pl_lst (ad_starT (pdv 0)  (ad_cons (pdv 1) ad_nil)) ?_) (star1 s mk))) hl (nodup_snoc hs.nodup hk) (nrm_ok m (s ++ [mk])).asc fun x => mem_nrm (snoc_rg hs h0 h1)))) q
  rw [star1, List.length_map]
  show _ ≤ 2 ^ 24
  omega
def R_without_mark (ds : List D) (d : D) : Prop := ∃ (s : List Int) (k : Int), s.length < sizeLine ∧ ds = [sD s, .i k] ∧ d = sD (s.filter fun x => !decide (x = k))
theorem has_without_mark (Z : Zk K mg) : Has P w K mg base 1 "without_mark" (spD T (He.ga K "Book") R_without_mark) := by
  have hN : (["thing", "mark", "one"] : List Str).Nodup := by decide +kernel
  refine has_D (N := ["thing", "mark", "one"]) (ps := ["thing", "mark"]) (d := dF 65 "without_mark" "without_mark") (Z.d 46 rfl rfl rfl) (Z.glo 39 rfl) ⟨rfl, rfl, rfl, hN, rfl, by decide +kernel, by decide +kernel⟩ ?hlen (fun _ _ _ _ _ _ us hl => match us, hl with | [_, _], _ => rfl) (fun f cd A outer s0 H E hr0 ds r hR Q q => ?body)
  case hlen => exact fun ds d ⟨_, _, _, h, _⟩ => by rw [h]; rfl
  obtain ⟨s, mk, hz, rfl, rfl⟩ := hR
  refine sd_ret (pd_tupleL Z.tuple_ (PL.r (pl_lcI (own := [("one", 2)]) (is := [2]) _ _ _ _ _ rfl hN (id_tup (pdv 0)) (blk_ok (by kernel_rfl)) (fun _ _ _ _ _ => pg_name (i := 2) hN rfl (by first | exact .inl rfl | exact .inr rfl)) (fun a ha => (gd_name)) (by decide) (fun a ha s0 H0 C cl fp => (td_neI (pdv 2) (pdv 1))) (fun a ha hp s0 H0 C cl fp => (pdv 2)) ?_))) q
  exact hz
theorem has_step_from (Z : Zk K mg) : Has P w K mg base 3 "step_from" (spE T (He.ga K "Book") P_oneway (fun _ _ => True)) := by
  have hN : (["book", "thing", "some", "mark"] : List Str).Nodup := by decide +kernel
  refine has_E (N := ["book", "thing", "some", "mark"]) (ps := ["book", "thing"]) (d := dF 66 "step_from" "step_from") (Z.d 47 rfl rfl rfl) (Z.glo 40 rfl) ⟨rfl, rfl, rfl, hN, rfl, by decide +kernel, by decide +kernel⟩ (fun ds ⟨_, _, _, _, _, h⟩ => by rw [h]; rfl) (fun _ _ _ _ _ _ us hl => match us, hl with | [_, _], _ => rfl) (fun f cd A outer s0 H E hr0 ds hP Q q => ?_)
  obtain ⟨m, rs, s, ho, hs, rfl⟩ := hP
  have h5 := ho.m5
  refine sd_setLcI (i := 2) (own := [("mark", 3)]) (is := [3]) (mks m) (D.i) _ _ _ rfl hN rfl rfl (sw_true rfl rfl rfl (by decide +kernel)) (id_tup (pd_call (has_whole_of Z) hr0 (ad_cons (pdv 0) ad_nil) ⟨_, _, ho, rfl, rfl⟩)) (blk_ok (by kernel_rfl)) (fun _ _ _ _ _ => pg_name (i := 3) hN rfl (by first | exact .inl rfl | exact .inr rfl)) (fun a ha => (gd_name)) (by decide) (fun a ha s0 H0 C cl fp => (WD.t (wd_and (td_notin (pdv 3) (pdv 1)) (fun _ => (wd_and1 (td_val (pd_call (has_is_shut Z) hr0 (ad_cons (pd_bkR Z.bk (pdv 0)) (ad_cons (pd_call (has_with_mark_geometry Z) hr0 (ad_cons (pdv 1) (ad_cons (pdv 3) ad_nil)) ⟨m, _, _, ?_, ?_, ?_, ?_, ?_, rfl, rfl⟩) ad_nil)) ⟨_, _, _, ho, rfl, rfl⟩))))))) (fun a ha hp s0 H0 C cl fp => (pdv 3)) ?_ ?_
  · exact hs
  · exact h5
  · exact (mem_mks.mp ‹_›).1
  · exact (mem_mks.mp ‹_›).2
  · simpa using ‹(!decide _) = true›
  · rw [mks_len]
    show m < 2 ^ 24
    omega
  intro pr vr H1 hn1 e1 hpr hvr
  generalize hL : (mks m).filter (fun k => !decide (k ∈ s) && isShut rs (nrm m (s ++ [k]))) = L at hvr
  cases L with
  | nil =>
    refine sd_ret (d := .n) (pd_if (k := false) (td_ne0 (n := 0) hr0 (prv 2 (SqL.of hpr) hvr) ?_) (fun z => by cases z) fun _ => pd_non) fun v H2 e2 a2 => q _ v H2 True.intro (e1.trans e2) a2
    rfl
  | cons a r =>
    refine sd_ret (d := .i a) (pd_if (k := true) (td_ne0 (n := 0) hr0 (prv 2 (SqL.of hpr) hvr) ?_) (fun _ => (pd_ixL (prv 2 (SqL.of hpr) hvr) pd_int ?_)) fun z => by cases z) fun v H2 e2 a2 => q _ v H2 True.intro (e1.trans e2) a2
    · exact okL_ints _
    · exact atI_zero
noncomputable def arG (m : Nat) (rs : Rules) (s : List Int) (k : Int) : List Int := clo m rs (s ++ [k])
noncomputable def badG (m : Nat) (rs : Rules) (s : List Int) (a b : Int) : Bool := decide (a < b) && (decide (b ∈ arG m rs s a) && decide (a ∈ arG m rs s b))
theorem has_exchange_at (Z : Zk K mg) : Has P w K mg base 3 "exchange_at" (spE T (He.ga K "Book") P_oneway (RPair badG)) := by
  have hN : (["book", "thing", "rest", "mark", "around", "one", "other"] : List Str).Nodup := by decide +kernel
  refine has_E (N := ["book", "thing", "rest", "mark", "around", "one", "other"]) (ps := ["book", "thing"]) (d := dF 67 "exchange_at" "exchange_at") (Z.d 48 rfl rfl rfl) (Z.glo 41 rfl) ⟨rfl, rfl, rfl, hN, rfl, by decide +kernel, by decide +kernel⟩ (fun ds ⟨_, _, _, _, _, h⟩ => by rw [h]; rfl) (fun _ _ _ _ _ _ us hl => match us, hl with | [_, _], _ => rfl) (fun f cd A outer s0 H E hr0 ds hP Q q => ?_)
  obtain ⟨m, rs, s, ho, hs, rfl⟩ := hP
  have h5 := ho.m5
  have sl := hs.len
  refine sd_setLcI (i := 2) (own := [("mark", 3)]) (is := [3]) (mks m) (D.i) _ _ _ rfl hN rfl rfl (sw_true rfl rfl rfl (by decide +kernel)) (id_tup (pd_call (has_whole_of Z) hr0 (ad_cons (pdv 0) ad_nil) ⟨_, _, ho, rfl, rfl⟩)) (blk_ok (by kernel_rfl)) (fun _ _ _ _ _ => pg_name (i := 3) hN rfl (by first | exact .inl rfl | exact .inr rfl)) (fun a ha => (gd_name)) (by decide) (fun a ha s0 H0 C cl fp => (td_notin (pdv 3) (pdv 1))) (fun a ha hp s0 H0 C cl fp => (pdv 3)) ?_ ?_
  · rw [mks_len]
    show m < 2 ^ 24
    omega
  intro pr vr H1 hn1 e1 hpr hvr
  have hvr : AtL (He.ga K "Book") H1 ((restM m s).map D.i) vr := hvr
  refine sd_setDc (i := 4) (own := [("mark", 3)]) (is := [3]) (restM m s) (D.i) _ _ _ rfl hN rfl rfl (sw_trueD rfl rfl rfl (by decide +kernel)) (id_listR (prv 2 (SqL.of hpr) hvr)) (blk_ok (by kernel_rfl)) (fun _ _ _ _ _ => pg_name (i := 3) hN rfl (by first | exact .inl rfl | exact .inr rfl)) (fun a ha => gd_name) (by decide) (fun a ha s0 H0 C cl fp => (pdv 3)) (fun a ha s0 H0 C cl fp => (pd_call (has_closure Z) hr0 (ad_cons (pd_bkR Z.bk (pdv 0)) (ad_cons (PD.is (pd_tup (ad_starT (pdv 1) (ad_cons (pdv 3) ad_nil)) ?_) (congrArg D.t (star1 s _))) ad_nil)) ⟨_, _, _, ho, ?_, ?_, rfl, rfl⟩)) ?_ ?_
  · rw [star1, List.length_map, List.length_append, List.length_singleton]
    show _ ≤ 2 ^ 24
    omega
  · exact snoc_rg hs (mem_restM ‹_›).1 (mem_restM ‹_›).2.1
  · rw [List.length_append, List.length_singleton]
    omega
  · have := restM_len m s
    show (restM m s).length < 2 ^ 24
    omega
  intro pa ka H2 hn2 e2 hpa hka
  rw [foldP_new _ _ _ (by rw [List.map_id']; exact restM_nd m s)] at hka
  have hka : KvL (He.ga K "Book") H2 ((restM m s).map fun k => (k, sD (arG m rs s k))) ka := hka
  have hpr2 := Ex.lst e2 hpr
  have hvr2 := hvr.mono e2
  refine sd_for (S := Nob) (restM m s) D.i (fun k _ => ∀ a ∈ (restM m s).take k, ∀ b ∈ restM m s, badG m rs s a b = false) (fun _ => [some (bkD m rs), some (sD s), some (.r pr), none, some (.r pa), none, none]) (fun _ a => [some (bkD m rs), some (sD s), some (.r pr), none, some (.r pa), some (.i a), none]) PassesOwn.never rfl
    (id_listR (prv 2 (SqL.of hpr2) hvr2)) (pg_name (i := 5) hN rfl (by first | exact .inl rfl | exact .inr rfl)) (fun k s _ => gd_name) (fun _ _ a ha => by (rw [List.take_zero] at ha; cases ha)) (gle (by repeat' first | exact True.intro | exact rfl | refine And.intro ?_ ?_)) (fun _ _ _ h _ => h) ?_ ?_
  · rintro H3 e3 k a H4 hk eb hM
    have ham : a ∈ restM m s := List.mem_of_getElem? hk
    have tk : (restM m s).take (k + 1) = (restM m s).take k ++ [a] := by rw [List.take_add_one, hk]; rfl
    have e4 := e3.trans eb
    refine sd_for (S := Nob) (restM m s) D.i (fun j _ => ∀ b ∈ (restM m s).take j, badG m rs s a b = false) (fun _ => [some (bkD m rs), some (sD s), some (.r pr), none, some (.r pa), some (.i a), none]) (fun _ b => [some (bkD m rs), some (sD s), some (.r pr), none, some (.r pa), some (.i a), some (.i b)]) PassesOwn.never rfl
      (id_listR (prv 2 (SqL.of (Ex.lst e4 hpr2)) (hvr2.mono e4))) (pg_name (i := 6) hN rfl (by first | exact .inl rfl | exact .inr rfl)) (fun k s _ => gd_name) (fun _ _ b hb => by (rw [List.take_zero] at hb; cases hb)) (gle (by repeat' first | exact True.intro | exact rfl | refine And.intro ?_ ?_)) (fun _ _ _ h _ => h) ?_ ?_
    · rintro H5 e5 j b H6 hj eb6 hM6
      have hbm : b ∈ restM m s := List.mem_of_getElem? hj
      have tk2 : (restM m s).take (j + 1) = (restM m s).take j ++ [b] := by rw [List.take_add_one, hj]; rfl
      have e6 := e4.trans (e5.trans eb6)
      refine sd_if (l := badG m rs s a b) (WD.t (wd_and (td_lt (pdv 5) (pdv 6)) (fun _ => (wd_and (td_in (pdv 6) (pd_dget 4 hr0 (Ex.dk e6 hpa) (hka.mono e6) (pdv 5) (look_map ham))) (fun _ => (wd_and1 (td_in (pdv 5) (pd_dget 4 hr0 (Ex.dk e6 hpa) (hka.mono e6) (pdv 6) (look_map hbm))))))))) (fun hw => ?_) (fun hw => ?_)
      · refine sd_ret (pd_tup (ad_cons (pdv 5) (ad_cons (pdv 6) ad_nil)) ?_) ?_
        · show 2 ≤ 2 ^ 24; decide
        intro v H7 e7 a7
        refine q (.t [.i a, .i b]) v H7 (fun m' rs' s' he => ?_) (((e1.trans e2).trans e6).trans e7) a7
        obtain ⟨rfl, rfl, rfl⟩ := args_inj he
        exact .inr ⟨a, b, rfl, ham, hbm, hw⟩
      · refine sd_nil fun σ H7 e7 s7 => wS_nil ⟨eb6.trans e7, s7.gle (gle (by repeat' first | exact True.intro | exact rfl | refine And.intro ?_ ?_)), fun b' hb' => ?_⟩
        rw [tk2] at hb'
        rcases List.mem_append.mp hb' with z | z
        · exact hM6 b' z
        · rw [List.mem_singleton.mp z]; exact hw
    · intro H5 eb5 hM5
      rw [List.take_length] at hM5
      refine sd_nil fun σ H7 e7 s7 => ⟨eb.trans (eb5.trans e7), s7.gle (gle (by repeat' first | exact True.intro | exact rfl | refine And.intro ?_ ?_)), fun a' ha' => ?_⟩
      rw [tk] at ha'
      rcases List.mem_append.mp ha' with z | z
      · exact hM a' z
      · rw [List.mem_singleton.mp z]; exact hM5
  · intro H3 eb3 hM3
    rw [List.take_length] at hM3
    refine sd_ret pd_non ?_
    intro v H7 e7 a7
    refine q .n v H7 (fun m' rs' s' he => ?_) (((e1.trans e2).trans eb3).trans e7) a7
    obtain ⟨rfl, rfl, rfl⟩ := args_inj he
    exact .inl ⟨rfl, hM3⟩
def endsM (rs : Rules) (s : List Int) : List Int := s.filter fun k => isShut rs (s.filter fun x => !decide (x = k))
def R_ends_of (ds : List D) (d : D) : Prop := ∃ (m : Nat) (rs : Rules) (s : List Int), OkR m rs ∧ OkS m s ∧ ds = [bkD m rs, sD s] ∧ d = sD (endsM rs s)
theorem has_ends_of (Z : Zk K mg) : Has P w K mg base 3 "ends_of" (spD T (He.ga K "Book") R_ends_of) := by
  have hN : (["book", "thing", "mark"] : List Str).Nodup := by decide +kernel
  refine has_D (N := ["book", "thing", "mark"]) (ps := ["book", "thing"]) (d := dF 72 "ends_of" "ends_of") (Z.d 53 rfl rfl rfl) (Z.glo 44 rfl) ⟨rfl, rfl, rfl, hN, rfl, by decide +kernel, by decide +kernel⟩ ?hlen (fun _ _ _ _ _ _ us hl => match us, hl with | [_, _], _ => rfl) (fun f cd A outer s0 H E hr0 ds r hR Q q => ?body)
  case hlen => exact fun ds d ⟨_, _, _, _, _, h, _⟩ => by rw [h]; rfl
  obtain ⟨m, rs, s, ho, hs, rfl, rfl⟩ := hR
  refine sd_ret (pd_tupleL Z.tuple_ (PL.r (pl_lcI (own := [("mark", 2)]) (is := [2]) _ _ _ _ _ rfl hN (id_tup (pdv 1)) (blk_ok (by kernel_rfl)) (fun _ _ _ _ _ => pg_name (i := 2) hN rfl (by first | exact .inl rfl | exact .inr rfl)) (fun a ha => (gd_name)) (by decide) (fun a ha s0 H0 C cl fp => (td_val (pd_call (has_is_shut Z) hr0 (ad_cons (pd_bkR Z.bk (pdv 0)) (ad_cons (pd_call (has_without_mark Z) hr0 (ad_cons (pdv 1) (ad_cons (pdv 2) ad_nil)) ⟨_, _, ?_, rfl, rfl⟩) ad_nil)) ⟨_, _, _, ho, rfl, rfl⟩))) (fun a ha hp s0 H0 C cl fp => (pdv 2)) ?_))) q
  · exact hs.sz ho.m5
  · exact hs.sz ho.m5
def R_ends (ds : List D) (d : D) : Prop := ∃ (m : Nat) (rs : Rules) (s : List Int), OkR m rs ∧ OkS m s ∧ isShut rs s = true ∧ ds = [bkD m rs, sD s] ∧ d = sD (endsM rs s)
theorem has_ends (Z : Zk K mg) : Has P w K mg base 4 "ends" (spD T (He.ga K "Book") R_ends) := by
  have hN : (["book", "thing"] : List Str).Nodup := by decide +kernel
  refine has_D (N := ["book", "thing"]) (ps := ["book", "thing"]) (d := dF 73 "ends" "ends") (Z.d 54 rfl rfl rfl) (Z.glo 45 rfl) ⟨rfl, rfl, rfl, hN, rfl, by decide +kernel, by decide +kernel⟩ ?hlen (fun _ _ _ _ _ _ us hl => match us, hl with | [_, _], _ => rfl) (fun f cd A outer s0 H E hr0 ds r hR Q q => ?body)
  case hlen => exact fun ds d ⟨_, _, _, _, _, _, h, _⟩ => by rw [h]; rfl
  obtain ⟨m, rs, s, ho, hs, hsh, rfl, rfl⟩ := hR
  refine sd_expr ((pd_call (has_check_book Z) hr0 (ad_cons (pdv 0) ad_nil) ⟨_, _, rfl, rfl⟩)) ?_
  refine sd_expr ((pd_call (has_check_set Z) hr0 (ad_cons (pd_bkM Z.bk (pdv 0)) (ad_cons (pdv 1) ad_nil)) ⟨_, _, ?_, ?_, rfl, rfl⟩)) ?_
  · exact ho.m5
  · exact hs
  refine sd_skip (TD.is (td_not (td_val (pd_call (has_is_shut Z) hr0 (ad_cons (pd_bkR Z.bk (pdv 0)) (ad_cons (pdv 1) ad_nil)) ⟨_, _, _, ho, rfl, rfl⟩))) (by rw [hsh]; rfl)) ?_
  refine sd_ret (pd_call (has_ends_of Z) hr0 (ad_cons (pdv 0) (ad_cons (pdv 1) ad_nil)) ⟨_, _, _, ho, ?_, rfl, rfl⟩) q
  exact hs
end
end G30
set_option Elab.async false
set_option linter.all false
set_option maxRecDepth 100000
set_option maxHeartbeats 4000000
set_option autoImplicit false
namespace G30
open PySem PySem.Spec PyProof.Rows L2 LamX StX SlX
/-! ### {k: v for ..}, its keys tuples -/
theorem t_dictSet {X : Cx} {pins : List (Addr × Obj)} {σ : L2.St} {H : Hp} {s : Shared} {E : Value → Shared → Prop} {L b : Addr} {kvs : List (List Key × V)} {k : List Key} {v : V} {u r : Value} {Q : Unit → Shared → Prop} (hu : X.A.units < cLine) (I : Inv X pins σ H s) (hL : H L = some (.dT kvs)) (hz : kvs.length < sizeLine)
    (hb : H b = some (.tup (k.map kV))) (ru : u = .ref b) (rv : RelV v r) (q : ∀ s', Inv X pins σ (upd H L (.dT (putK kvs k v))) s' → Q () s') : wpAny (model X.prog X.w) X.A (dictSet L u r) Q E s := by
  subst ru
  obtain ⟨z, hd, xs, rel, dd⟩ := dt_of I.hok hL
  have z2 : xs.length ≤ sizeLine := by rw [← Paired.length rel]; exact z
  have z3 : (putK kvs k v).length ≤ sizeLine := by have := length_putK kvs k v; omega
  refine wpAny_dictSet_heap (hsz := z2) (knd := tupleKind (mixKind X.prog X.w)) hu (key_of I.hok hb) dd fun g gd sb => q _ ?_
  obtain ⟨o, es, ep, ho, a2, a3, a4, _, a5⟩ := gd
  refine d_write I (by rw [hL]; exact True.intro) sb ⟨o, ho⟩ ⟨z3, hd, _, (rel.put k hb rv).keeps fun c ys ec => ?_, o, es, ep, ho, a2, a3, a4, a5⟩
  rw [upd_ne (ne_of ec hL (fun z => nomatch z))]
  exact ec
section
variable {X : Cx}
def tDcT (wi : TI) (g : TG) (tk tv : TE) (vs : List Nat) : TE := fun σ H Q => wi σ H fun J H1 => ∀ L, H1 L = none → ∃ W : Nat → Nat → Hp → Prop, (∃ m, W 0 m (upd H1 L (.dT []))) ∧ ∀ i m H, W i m H →
  (J.stop i H ∧ Q (.ref L) H) ∨ (J.go i H ∧ ∃ Nx : Hp → Prop, (∀ H', Nx H' → ∃ m', m' < m ∧ W (i + 1) m' H') ∧ ∀ x H', J.yld i H x H' → g x (wipe σ vs) H' fun σ2 H2 => wipe σ2 vs = wipe σ vs ∧
    tk σ2 H2 fun y H4 => tv σ2 H4 fun z H5 => ∃ kvs k b, y = .ref b ∧ H5 b = some (.tup (k.map kV)) ∧ H5 L = some (.dT kvs) ∧ kvs.length < sizeLine ∧ Nx (upd H5 L (.dT (putK kvs k z))))
theorem pe_dcT {kx vx tg iter : Expr} {scope : Scope} {own : List (Str × Nat)} {pos : Pos} {wi : TI} {g : TG} {tk tv : TE} (hu : X.A.units < cLine) (hc : X.calm = true) (hN : X.N.Nodup) (hi : PI X tg iter wi) (ok : BlkOk X.N X.env.scope scope own)
    (hg : ∀ (s : Shared) (H : Hp) (C : Addr) (cl : List (Str × Addr)) (fp : List Addr), PG (X.blk s H scope (compEnvC scope cl C X.env) fp) tg g)
    (hk : ∀ (s : Shared) (H : Hp) (C : Addr) (cl : List (Str × Addr)) (fp : List Addr), PE (X.blk s H scope (compEnvC scope cl C X.env) fp) kx tk)
    (he : ∀ (s : Shared) (H : Hp) (C : Addr) (cl : List (Str × Addr)) (fp : List Addr), PE (X.blk s H scope (compEnvC scope cl C X.env) fp) vx tv) (hs : ∀ x, foldedSetIterable iter X.env x = pure x := by intro _; rfl) :
    PE X (.DictComp kx vx [⟨tg, iter, [], 0⟩] scope pos) (tDcT wi g tk tv (own.map (·.2))) := by
  refine ⟨fun pins s σ H Q I h => ?_⟩
  rw [arm_eval_DictComp]
  have free1 : ∀ y ∈ scope.names, y.2 = .free → ∃ c, X.env.cells.lookup y.1 = some c := by
    intro y hy e
    exact (ok.free y hy e).elim (fun k => I.ok.has _ (.inl k)) fun k => I.ok.has _ (.inr k)
  refine wpAny_comprehension_free (use := none) rfl hs (closure_ok free1) ok.kind (fun y hy e => by rw [ok.uniq y hy, e]) (thn (hi.run pins s σ H _ I h) fun xv s1 hx => thn hx fun itv s2 k2 => ?_)
  obtain ⟨it, fp, tn, J, H2, rfl, I2, T, st2, f2, q⟩ := k2
  refine wpAny_newObj_type (newEnv_comp ?_)
  generalize hL : s2.heap.objs.size = L
  have nL : H2 L = none := I2.hok.fresh (Nat.le_of_eq hL)
  obtain ⟨W, ⟨m0, w0⟩, turn⟩ := q L nL
  generalize e3 : ({ s2 with heap := s2.heap.push { cls := .type "dict", data := .dict #[] } } : Shared) = s3
  have I3 : Inv X pins σ (upd H2 L (.dT [])) s3 := by
    rw [← e3, ← hL]
    exact I2.laid (t' := s2.toks) (fun b o e => Heap.get?_push_of_some _ e) (Nat.le_refl _) (dt_empty s2.heap I2.big)
  have h3 : s3.heap = s2.heap.push { cls := .type "dict", data := .dict #[] } := by rw [← e3]
  have f3 : ∀ b ∈ fp, FpOk X pins (upd H2 L (.dT [])) b ∧ b < s3.heap.objs.size := by
    intro b hb
    obtain ⟨o, eo, _⟩ := T.obj _ _ st2 b hb
    have lt := Heap.lt_size eo
    have ne : b ≠ L := by rw [← hL]; exact Nat.ne_of_lt lt
    exact ⟨⟨by rw [upd_ne ne]; exact (f2 b hb).1, (f2 b hb).2⟩, by rw [h3, Heap.size_push]; exact Nat.lt_succ_of_lt lt⟩
  have st3 : tn 0 s3.heap := T.keep _ _ _ st2 fun b _ o e => by rw [h3]; exact Heap.get?_push_of_some _ e
  have I4 := block_start I3 ok hN f3
  have pg := hg s3 (upd H2 L (.dT [])) s3.heap.objs.size (cellsFrom (s3.heap.objs.size + 1) scope.names (cloFrom X.env.cells scope.names [])) fp
  have pk := hk s3 (upd H2 L (.dT [])) s3.heap.objs.size (cellsFrom (s3.heap.objs.size + 1) scope.names (cloFrom X.env.cells scope.names [])) fp
  have pe := he s3 (upd H2 L (.dT [])) s3.heap.objs.size (cellsFrom (s3.heap.objs.size + 1) scope.names (cloFrom X.env.cells scope.names [])) fp
  show codeAny _ _ (.compStart (.DictComp kx vx [⟨tg, iter, [], 0⟩] scope pos) 0 (.ref it) (.ref L) (compEnvC scope (cellsFrom (s3.heap.objs.size + 1) scope.names (cloFrom X.env.cells scope.names [])) s3.heap.objs.size X.env)) (compPost (model X.prog X.w) X.A X.xe none (EP X pins σ Q) (.ref L) s3.heap.objs.size) { s3 with heap := pushCells (s3.heap.push { cls := .type "dict", data := .dict #[] }) scope.names }
  have nfp : ∀ b ∈ fp, (upd H2 L (.dT [])) b = none := fun b hb => (f3 b hb).1.1
  generalize eCe : compEnvC scope (cellsFrom (s3.heap.objs.size + 1) scope.names (cloFrom X.env.cells scope.names [])) s3.heap.objs.size X.env = ce at I4 pg pk pe ⊢
  have loc : ce.locals = s3.heap.objs.size := by subst eCe; rfl
  generalize eH : upd H2 L (.dT []) = H3 at I3 I4 pg pk pe w0 nfp f3
  generalize e4 : ({ s3 with heap := pushCells (s3.heap.push { cls := .type "dict", data := .dict #[] }) scope.names } : Shared) = s4 at I4 ⊢
  have st4 : tn 0 s4.heap := T.keep _ _ _ st3 fun b _ o e => by rw [← e4]; exact pushCells_keeps _ _ _ _ (Heap.get?_push_of_some _ e)
  have stat : ∀ {σ' : L2.St} {H' : Hp} {s' : Shared}, Inv (X.blk s3 H3 scope ce fp) [] σ' H' s' → (∀ b ∈ fp, H' b = none) → ∀ b ∈ fp, FpOk (X.blk s3 H3 scope ce fp) [] H' b := by
    intro σ' H' s' I' hn b hb
    exact ⟨hn b hb, (I'.ok.exf b hb).1, I'.ok.exfs b hb, .inl hb, fun x c e => (I'.ok.exf b hb).2 x c e, fun p hp => by cases hp⟩
  have loop : codeAny (model X.prog X.w) X.A (.compLoop (.DictComp kx vx [⟨tg, iter, [], 0⟩] scope pos) 0 (.ref it) (.ref L) ce) (compPost (model X.prog X.w) X.A X.xe none (EP X pins σ Q) (.ref L) s3.heap.objs.size) s4 := by
    refine compLoop_anyD (fun n z => ∃ i H', Inv (X.blk s3 H3 scope ce fp) [] (wipe σ (own.map (·.2))) H' z ∧ tn i z.heap ∧ (∀ b ∈ fp, H' b = none) ∧ W i n H') ?_ m0 ⟨0, H3, I4, st4, nfp, w0⟩
    rintro n s5 ⟨i, H5, I5, st5, n5, w5⟩
    rcases turn i n H5 w5 with ⟨stop, qq⟩ | ⟨go, Nx, hNx, step⟩
    · refine thnF (T.done (X.blk s3 H3 scope ce fp) rfl rfl rfl hc i [] s5 _ H5 (fun _ _ => False) I5 (stat I5 n5) st5 stop) fun r s6 ⟨hr, I6⟩ => ?_
      subst hr
      have I7 : Inv X pins σ H5 s6 := I3.call' (ch := fp) I6.os I6.base I6.hok I6.bare fun b hb => ⟨(f3 b hb).1.2.2.2.1, (f3 b hb).1.2.1, (f3 b hb).1.2.2.2.2.1, (f3 b hb).1.2.2.2.2.2⟩
      have nC : H5 s3.heap.objs.size = none := by
        rw [← loc]
        exact I6.free
      obtain ⟨m, hm, _⟩ := I6.loc
      have hm : s6.heap.Ns ce.locals m := hm
      rw [loc] at hm
      obtain ⟨f0, f1, f2', f3', f4, f5⟩ := I3.fpOk (Nat.le_refl _) nC
      exact ⟨m, hm, fun g sb => ⟨.ref L, H5, I7.turned (t' := s6.toks) (fun b o hb e => (sb.2 b hb).trans e) f0 f1 f3' f4 f5, rfl, qq⟩⟩
    · refine thnF (T.item (X.blk s3 H3 scope ce fp) rfl rfl rfl hc i [] s5 _ H5 (fun _ _ => False) I5 (stat I5 n5) st5 go) fun r s6 ⟨u, hr, k6⟩ => ?_
      subst hr
      refine thnF k6 fun _ s7 ⟨x, H7, I7, r7, y7, st7, n7⟩ => ?_
      have J7 := I7.pinned (stat I7 n7) (T.obj _ _ st7)
      refine thnF (pg.run _ s7 _ H7 x u _ J7 r7 (step x H7 y7)) fun _ s8 ⟨σ8, H8, I8, hw8, q8⟩ => ?_
      refine thnF ((pts_nil (X := X.blk s3 H3 scope ce fp)).run _ s8 σ8 H8 (fun b H9 => b = true ∧ H9 = H8) I8 ⟨rfl, rfl⟩) fun b s9 ⟨H9, I9, eb, eH9⟩ => ?_
      subst eb eH9
      simp only [if_true]
      refine thnF (pk.run _ s9 σ8 H9 _ I9 q8) fun z s10 ⟨yk, H10, I10, r10, q10⟩ => ?_
      refine thnF (pe.run _ s10 σ8 H10 _ I10 q10) fun z2 s11 ⟨yv, H11, I11, r11, kvs, k, bk, ek, hbk, hL11, hz11, nx⟩ => ?_
      subst ek
      have rz : z = Value.ref bk := r10
      refine t_dictSet (X := X.blk s3 H3 scope ce fp) hu I11 hL11 hz11 hbk rz r11 fun s12 I12 => ?_
      obtain ⟨m', hm, w'⟩ := hNx _ nx
      have pin : ∀ b ∈ fp, ∀ o, s7.heap.get? b = some o → s12.heap.get? b = some o ∧ upd H11 L (.dT (putK kvs k yv)) b = none := fun b hb o e =>
        let z := I12.pin (b, o) (List.mem_append_right _ (List.mem_append_right _ (mem_pinsAt hb e)))
        ⟨z.1, z.2.1⟩
      have len : (wipe σ (own.map (·.2))).length = σ8.length := by rw [← hw8, wipe_length]
      refine ⟨m', hm, i + 1, _, (I12.unpinned (pins := [])).weak len (fun j v e => ?_), T.keep _ _ _ st7 fun b hb o e => (pin b hb o e).1, fun b hb => ?_, w'⟩
      · rw [← hw8] at e
        exact (wipe_some e).1
      · obtain ⟨o, e, _⟩ := T.obj _ _ st7 b hb
        exact (pin b hb o e).2
  exact codeAny_compStart_dict loop (T.self X.A 0 _ _ _ st4 loop)
end
end G30
set_option Elab.async false
set_option linter.all false
set_option maxRecDepth 100000
set_option maxHeartbeats 4000000
set_option autoImplicit false
namespace G30
open PySem PySem.Spec PyProof.Rows L2 LamX StX SlX
/-! ### dict(d), its keys tuples -/
section
variable {prog : Program} {w : World} {K : Type} [DecidableEq K] {knd : HeapKind prog w K} {A : Around} {E : Value → Shared → Prop} {s : Shared}
theorem call_dictT {o : Addr} {more : List (K × Addr × Value)} {Q : Value → Shared → Prop} (hu : knd.room A.in1.in1) (lo : (o == sysModules) = false) (ho : s.heap.DictOfH knd o more) (hst : ∀ g : Heap, (∀ b u, s.heap.get? b = some u → g.get? b = some u) → ∀ x ∈ more, knd.is g x.1 x.2.1)
    (hty : ∀ x ∈ more, s.TypeIs (.ref x.2.1) "tuple") (hn : (more.map fun x => knd.hash x.1).Nodup) (hz : more.length ≤ sizeLine)
    (q : ∀ g, (∀ b u, s.heap.get? b = some u → g.get? b = some u) → Q (.ref s.heap.objs.size) { s with heap := g }) : wpAny (model prog w) A (call (.type "dict") [.ref o]) Q E s := by
  refine callType_codes (Q₁ := fun x s1 => x = .ref s.heap.objs.size ∧ s1 = { s with heap := s.heap.push { cls := .type "dict", data := .dict #[] } }) F.kt_called_dict (F.kt_typeCall_dict_1 _) F.entry_dict_init (kt_code_dict_new _ ⟨rfl, rfl⟩) ?_
  rintro x s1 ⟨rfl, rfl⟩
  have up : ∀ b u, s.heap.get? b = some u → (s.heap.push { cls := .type "dict", data := .dict #[] }).get? b = some u := fun b u z => Heap.get?_push_of_some _ z
  have d0 : (s.heap.push { cls := .type "dict", data := .dict #[] }).DictOfH knd s.heap.objs.size [] := Heap.DictOfH.new s.heap
  have d1 : (s.heap.push { cls := .type "dict", data := .dict #[] }).DictOfH knd o more := by
    obtain ⟨u, es, ep, a1, a2, a3, a4, _, a6⟩ := id ho
    exact ⟨u, es, ep, up _ _ a1, a2, a3, a4, hst _ up, a6⟩
  have ne : s.heap.objs.size ≠ o := by
    obtain ⟨_, _, _, hg, _⟩ := id ho
    exact fun z => absurd (Heap.lt_size hg) (by rw [z]; exact Nat.lt_irrefl _)
  refine ⟨d0.typeIs, F.args_dict_init_2 _ _, ?_⟩
  unfold Builtin.«dict.__init__» Builtin.Dict.selfAndRest
  refine wpAny_bind (wpAny_bind (wpAny_notOrdered_dict d0.typeIs ?_))
  show wpAny _ _ (pure (s.heap.objs.size, [Value.ref o])) _ _ _
  refine wpAny_pure ?_
  refine updateFrom_dictH (A := A.in1) .none hu ne lo d0 d1 (.inr ⟨fun x hx => ?_, hn⟩) (by simpa using hz) fun g g1 g2 sb => ⟨rfl, q g fun b u z => (sb.2 b (Nat.ne_of_lt (Heap.lt_size z))).trans (up b u z)⟩
  obtain ⟨u, t1, t2⟩ := hty x hx
  exact ⟨u, up _ _ t1, t2⟩
end
/-! hashes of sets -/
def sHash (s : List Int) : Int := reduceHash (Builtin.Tuple.tupleHashOf (s.map hashInt))
abbrev sKey (s : List Int) : List Key := s.map Sum.inl
theorem sKey_V (s : List Int) : (sKey s).map kV = s.map V.int := by
  rw [List.map_map]
  rfl
theorem sKey_hash {P : Program} {w : World} (s : List Int) : (tupleKind (mixKind P w)).hash (sKey s) = sHash s := by
  show reduceHash (Builtin.Tuple.tupleHashOf ((sKey s).map (keyH w))) = _
  rw [List.map_map]
  rfl
theorem hash_nd : ∀ m : Fin 6, ((subs m.1).map sHash).Nodup := by decide +kernel
/-- dict(d): a new object that nothing looks at -/
def rDictT : List V → Hp → VK → Prop := fun xs H Q => ∃ (a : Addr) (kvs : List (List Key × V)), xs = [.ref a] ∧ H a = some (.dT kvs) ∧ (∀ P w, ((kvs.map (·.1)).map (tupleKind (mixKind P w)).hash).Nodup) ∧ ∀ p, Q (.ref p) H
theorem call_dictTK {X : Cx} (hu : X.A.units + 100 < cLine) : CallR X (.type "dict") rDictT := by
  intro pins s σ H xs us Q I r h
  obtain ⟨a, kvs, rfl, ha, hn, q⟩ := h
  obtain ⟨u, rfl, ru⟩ := vals1 r
  cases ru
  obtain ⟨z, lo, ys, rel, dd⟩ := dt_of I.hok ha
  have hk : ys.map (·.1) = kvs.map (·.1) := by
    have key : ∀ {l : List (List Key × V)} {m : List (List Key × Addr × Value)}, KT H l m → m.map (·.1) = l.map (·.1) := by
      intro l m q
      induction q with
      | nil => rfl
      | cons hq _ ih => rw [List.map_cons, List.map_cons, ih, hq.1]
    exact key rel
  have tup : ∀ x ∈ ys, H x.2.1 = some (.tup (x.1.map kV)) := by
    have key : ∀ {l : List (List Key × V)} {m : List (List Key × Addr × Value)}, KT H l m → ∀ x ∈ m, H x.2.1 = some (.tup (x.1.map kV)) := by
      intro l m q
      induction q with
      | nil => intro x hx; cases hx
      | cons hq _ ih =>
        intro x hx
        rcases List.mem_cons.mp hx with e | hx
        · subst e
          rw [← hq.1]
          exact hq.2.1
        · exact ih x hx
    exact key rel
  have hu2 : (tupleKind (mixKind X.prog X.w)).room X.A.in1.in1 := by
    show X.A.in1.in1.units < cLine
    show X.A.units + 1 + 1 < cLine
    omega
  refine call_dictT (knd := tupleKind (mixKind X.prog X.w)) hu2 lo dd (fun g k x hx => ?_) (fun x hx => ?_) ?_ (by rw [← Paired.length rel]; exact z) fun g k => ⟨.ref _, H, I.kept (t' := s.toks) k, rfl, q _⟩
  · have I2 : Inv X pins σ H { s with heap := g } := I.kept (t' := s.toks) k
    exact key_of I2.hok (tup x hx)
  · obtain ⟨_, its, rv, o, t1, t2, _⟩ := (show ObjOk X.prog X.w H s.heap x.2.1 (.tup (x.1.map kV)) from I.hok _ _ (tup x hx))
    exact ⟨o, t1, t2⟩
  · have := hn X.prog X.w
    rw [← hk, List.map_map] at this
    exact this
theorem sKey_inj {s t : List Int} (h : sKey s = sKey t) : s = t := by
  induction s generalizing t with
  | nil => cases t with
    | nil => rfl
    | cons _ _ => cases h
  | cons x s ih => cases t with
    | nil => cases h
    | cons y t => injection h with h1 h2; injection h1 with h1; rw [h1, ih h2]
theorem putK_keys {kvs : List (List Key × V)} {ys : List (List Int)} {s : List Int} {v : V} (h : kvs.map (·.1) = ys.map sKey) (hn : s ∉ ys) : (putK kvs (sKey s) v).map (·.1) = (ys ++ [s]).map sKey := by
  have e : valV kvs (sKey s) = none := by
    have z := valV_any (sKey s) kvs
    cases hv : valV kvs (sKey s) with
    | none => rfl
    | some w =>
      rw [hv] at z
      obtain ⟨p, h1, h2⟩ := List.any_eq_true.mp z
      have h3 : p.1 ∈ ys.map sKey := by rw [← h]; exact List.mem_map.mpr ⟨p, h1, rfl⟩
      obtain ⟨t, h4, h5⟩ := List.mem_map.mp h3
      have h6 : p.1 = sKey s := of_decide_eq_true h2
      rw [h6] at h5
      rw [sKey_inj h5] at h4
      exact absurd h4 hn
  rw [putK_new _ e, List.map_append, h, List.map_append]
  rfl
section
variable {X : Cx} {T : List (Addr × Str)} {B : Addr} {Γ : List (Option D)} {H : Hp}
theorem pv_dcT {α : Type} (xs : List α) (f : α → D) (kf : α → List Int) (vf : α → D) (Γ' : α → List (Option D)) {tg iter kx vx : Expr} {scope : Scope} {own : List (Str × Nat)} {gt : TG} {is : List Nat} {pos : Pos} {k : Nat} (hr : Room k X.A) (hc : X.calm = true) (hN : X.N.Nodup) (hi : ID X T B Nob tg iter Γ H (xs.map f)) (ok : BlkOk X.N X.env.scope scope own)
    (hg : ∀ (s : Shared) (H : Hp) (C : Addr) (cl : List (Str × Addr)) (fp : List Addr), PG (X.blk s H scope (compEnvC scope cl C X.env) fp) tg gt) (hT : ∀ a ∈ xs, Gd T B gt is (f a) (wipeG Γ (own.map (·.2))) (Γ' a)) (his : ∀ i ∈ is, i ∈ own.map (·.2))
    (hk : ∀ a ∈ xs, ∀ s0 H0 C cl fp, PD (bk X scope s0 H0 C cl fp) T B kx (Γ' a) H (sD (kf a))) (he : ∀ a ∈ xs, ∀ s0 H0 C cl fp, PD (bk X scope s0 H0 C cl fp) T B vx (Γ' a) H (vf a)) (hz : xs.length < sizeLine) (hn : (xs.map kf).Nodup)
    (hs : ∀ x, foldedSetIterable iter X.env x = pure x := by intro _; rfl) : PV X T B (.DictComp kx vx [⟨tg, iter, [], 0⟩] scope pos) Γ H (fun v H2 => ∃ p kvs, v = .ref p ∧ H2 p = some (.dT kvs) ∧ kvs.map (·.1) = (xs.map kf).map sKey) := fun σ H1 e s Q q => by
  have hu : X.A.units < cLine := by
    have := hr.un
    omega
  refine PE.w (pe_dcT hu hc hN (piS X tg iter) ok hg peB peB hs) ?_
  refine hi σ H1 e s _ fun J H2 e2 wk => fun Dl hD => ?_
  refine ⟨fun i m H' => m = xs.length - i ∧ i ≤ xs.length ∧ Ex T H2 H' ∧ ∃ acc, H' Dl = some (.dT acc) ∧ acc.map (·.1) = ((xs.take i).map kf).map sKey, ⟨_, rfl, Nat.zero_le _, Ex.new hD, [], upd_same, rfl⟩, ?_⟩
  rintro i m H' ⟨rfl, hle, eH, acc, hacc, hat⟩
  obtain ⟨w1, w2, w3⟩ := wk H' eH
  rw [List.length_map] at w1 w2
  by_cases hlt : i < xs.length
  · have hmem : xs[i] ∈ xs := List.getElem_mem hlt
    refine .inr ⟨w1 i hlt, fun H'' => i + 1 ≤ xs.length ∧ Ex T H2 H'' ∧ ∃ acc, H'' Dl = some (.dT acc) ∧ acc.map (·.1) = ((xs.take (i + 1)).map kf).map sKey, fun H'' z => ⟨_, by omega, rfl, z⟩, fun x' H'' hy => ?_⟩
    obtain ⟨e3, at3⟩ := w3 i (f xs[i]) x' H'' (by rw [List.getElem?_map, List.getElem?_eq_getElem hlt]; rfl) hy
    have s3 : Sl T B H'' (wipe σ (own.map (·.2))) (wipeG Γ (own.map (·.2))) := (s.mono ((e2.trans eH).trans e3)).wipe _
    refine hT xs[i] hmem _ H'' x' s3 at3 _ fun σ' s4 hw => ⟨?_, ?_⟩
    · rw [hw _ his]
      exact wipe_wipe σ _ _ fun i hi => hi
    · have tf : xs.take (i + 1) = xs.take i ++ [xs[i]] := by rw [List.take_add_one, List.getElem?_eq_getElem hlt]; rfl
      have dt : ∀ {Ha Hb : Hp} {z : List (List Key × V)}, Ex T Ha Hb → Ha Dl = some (.dT z) → Hb Dl = some (.dT z) := fun a h => Ex.dt a h
      intro s0 H0 C cl fp
      refine hk xs[i] hmem s0 H0 C cl fp σ' H'' (((e.trans e2).trans eH).trans e3) s4 _ fun y H5 e5 at5 => ?_
      intro s0 H0 C cl fp
      refine he xs[i] hmem s0 H0 C cl fp σ' H5 ((((e.trans e2).trans eH).trans e3).trans e5) (s4.mono e5) _ fun v H6 e6 at6 => ?_
      obtain ⟨b, rfl, hb⟩ := At.set at5
      have hacc6 : H6 Dl = some (.dT acc) := dt e6 (dt e5 (dt e3 hacc))
      have em : Exb T (fun b => b = Dl) H6 (upd H6 Dl (.dT (putK acc (sKey (kf xs[i])) v))) := (Exb.refl H6).mut rfl hacc6 rfl (fun ps z => by cases z)
      have e26 : Ex T H2 H6 := ((eH.trans e3).trans e5).trans e6
      have la : acc.length = (xs.take i).length := by
        have := congrArg List.length hat
        rwa [List.length_map, List.length_map, List.length_map] at this
      refine ⟨acc, sKey (kf xs[i]), b, rfl, ?_, hacc6, ?_, hlt, ((Ex.to (S := fun b => b = Dl) e26).trans em).drop fun b hb => by rw [hb]; exact Nw.of hD, _, upd_same, ?_⟩
      · rw [sKey_V]
        exact e6.tup hb
      · rw [la, List.length_take]
        omega
      · rw [tf, List.map_append]
        refine putK_keys hat fun hm => ?_
        rw [← List.take_append_drop i xs, List.map_append, List.nodup_append] at hn
        refine hn.2.2 _ hm (kf xs[i]) ?_ rfl
        rw [List.drop_eq_getElem_cons hlt]
        exact List.mem_cons_self
  · have e1 : i = xs.length := by omega
    subst e1
    rw [List.take_length] at hat
    exact .inl ⟨w2 _ (Nat.le_refl _), q _ H' (e2.trans eH) ⟨Dl, acc, rfl, hacc, hat⟩⟩
theorem pv_dictT {a : Expr} {p pos : Pos} {k : Nat} {ss : List (List Int)} (hr : Room k X.A) (hm : X.mg "dict" = none) (h : PV X T B a Γ H (fun v H2 => ∃ p kvs, v = .ref p ∧ H2 p = some (.dT kvs) ∧ kvs.map (·.1) = ss.map sKey)) (hn : (ss.map sHash).Nodup) (hg : Gl X "dict" := by rfl)
    (he : starEach [a] X.env = (false, eval a X.env) :: starEach [] X.env := by rfl) (hpl : (backTo pos (starEach [] X.env)).any (·.1) = false := by rfl) : PV X T B (.Call (.Name "dict" p) [a] [] pos) Γ H (fun _ _ => True) := fun σ H1 x s Q q =>
  PE.w (pe_callTy (call_dictTK (by have := hr.un; omega)) hg hm (by decide +kernel) (pa_cons (peS X a) pa_nil he) (by decide) (by decide) he hpl) (h σ H1 x s _ fun v H2 e2 ⟨p, kvs, ev, hp, hk⟩ => ⟨p, kvs, by rw [ev], hp, fun P w => by
    rw [hk, List.map_map]
    have e : ss.map ((tupleKind (mixKind P w)).hash ∘ sKey) = ss.map sHash := List.map_congr_left fun t _ => sKey_hash t
    rw [e]
    exact hn, fun l => q _ H2 e2 True.intro⟩)
end
end G30
set_option Elab.async false
set_option linter.all false
set_option maxRecDepth 100000
set_option maxHeartbeats 4000000
set_option autoImplicit false
namespace G30
open PySem PySem.Spec PyProof.Rows L2 LamX StX SlX
section
variable {X : Cx} {T : List (Addr × Str)} {B : Addr} {Γ : List (Option D)} {H : Hp} {F : Ends} {e a : Expr} {es : List Expr} {rest : List Stmt} {pos pos' p2 : Pos} {x : Str}
/-- return C(e, ..) -/
theorem sd_mkA {C g : Addr} {sp : Sp} {k : Nat} {ds : List D} (M : Mk X.K C g) (G : FnR X.prog X.w X.K X.mg X.base CX0 k g sp) (hr : Room (k + 1) X.A) (hm : X.mg x = some (.ref C)) (h : AD X T B (e :: es) Γ H ds)
    (q : ∀ H1 vs px dx, Ex T H H1 → AtL B H1 ds vs → H1 px = none → Ex T H1 (upd (upd H1 dx (.own px)) px (.ins C dx [])) → sp (.ref px :: vs) (upd (upd H1 dx (.own px)) px (.ins C dx [])) (fun u H3 => u = .non ∧ F.rt (.ref px) H3) (fun _ _ _ => False)) (hg : Gl X x := by rfl) (hdb : (x == ("__debug__" : Str)) = false := by decide)
    (he : starEach (e :: es) X.env = (false, eval e X.env) :: starEach es X.env := by rfl) (hpl : (backTo pos (starEach es X.env)).any (·.1) = false := by rfl) : SD X T B (.Return (some (.Call (.Name x p2) (e :: es) [] pos)) pos' :: rest) Γ H F := fun σ H1 x1 s =>
  wS_cons (ps_ret (pe_makeR M G hr hg hm pass0 (paS X (e :: es)) hdb he hpl)) (h σ H1 x1 s _ fun vs H2 e2 w px dx hnx hndx hne => q H2 vs px dx (x1.trans e2) w hnx ((Ex.new hndx).trans (Ex.new (by rw [upd_ne (Ne.symm hne)]; exact hnx))))
/-- x = {} , its keys to be tuples -/
theorem sd_newT {i : Nat} (hN : X.N.Nodup) (hi : X.N[i]? = some x) (hx : Loc X.env.scope x) (k : ∀ p H1, Nw H p → Ex T H H1 → H1 p = some (.dT []) → SD X T B rest (Γ.set i (some (.r p))) H1 F) (hs : swapsWith (.Dict [] [] pos) (some (.Name x pos')) p2.line X.env = pure false := by rfl)
    (hf : X.fn x = true ∨ X.env.scope.names.lookup x = some .local := by first | exact .inl rfl | exact .inr rfl) : SD X T B (.Assign [.Name x pos'] (.Dict [] [] pos) p2 :: rest) Γ H F := fun σ H1 x s =>
  wS_cons (ps_set hN hi hx pe_dnewT hs hf) fun l hl => k l _ (x.free (Nw.of hl)) (x.trans (Ex.new hl)) upd_same _ _ (Exb.refl _) ((s.mono (Ex.new (T := T) hl)).set rfl)
/-- x[a] = e, the key a set -/
theorem sd_putT (i : Nat) {W : V → Hp → Prop} {q : Addr} {kvs : List (List Key × V)} {s : List Int} {k : Nat} (hr : Room k X.A) (hd : H q = some (.dT kvs)) (hz : kvs.length < sizeLine) (ha : PD X T B a Γ H (sD s)) (h : PV X T B e Γ H W)
    (k : ∀ H1 v, Exb T (fun b => b = q) H H1 → H1 q = some (.dT (putK kvs (sKey s) v)) → SD X T B rest Γ H1 F) (hN : X.N[i]? = some x := by rfl) (hΓ : Γ[i]? = some (some (.r q)) := by rfl) (hv : Vis X.env.scope x := by first | exact .inl rfl | exact .inr (.inl rfl) | exact .inr (.inr rfl)) (hdb : (x == ("__debug__" : Str)) = false := by decide) (hcd : (x == ("__classdict__" : Str)) = false := by decide)
    (hs : swapsWith e (some (.Subscript (.Name x p2) a pos')) pos.line X.env = pure false := by rfl) : SD X T B (.Assign [.Subscript (.Name x p2) a pos'] e pos :: rest) Γ H F := fun σ H1 x1 s1 =>
  wS_cons (ps_dput (room_in hr) (pe_var hN hv hdb hcd) (peS X a) (peS X e) hs) (h σ H1 x1 s1 _ fun v H2 e2 _ => ⟨_, dkv i (s1.mono e2) hΓ, ha σ H2 (x1.trans e2) (s1.mono e2) _ fun y H3 e3 at3 => by
    obtain ⟨b, rfl, hb⟩ := At.set at3
    have d3 : H3 q = some (.dT kvs) := Ex.dt e3 (Ex.dt e2 (Ex.dt x1 hd))
    have em : Exb T (fun b => b = q) H3 (upd H3 q (.dT (putK kvs (sKey s) v))) := (Exb.refl H3).mut rfl d3 rfl (fun ps z => by cases z)
    exact ⟨q, _, rfl, .inr ⟨kvs, sKey s, b, d3, rfl, by rw [sKey_V]; exact hb, hz, rfl⟩, k _ v ((Ex.to ((x1.trans e2).trans e3)).trans em) upd_same σ _ (Exb.refl _) (s1.mono ((Ex.to (e2.trans e3)).trans em))⟩⟩)
theorem PD.vT {l : Addr} {kvs : List (List Key × V)} {ks : List (List Key)} (h : PD X T B e Γ H (.r l)) (hl : H l = some (.dT kvs)) (hk : kvs.map (·.1) = ks) : PV X T B e Γ H (fun v H2 => ∃ p kvs, v = .ref p ∧ H2 p = some (.dT kvs) ∧ kvs.map (·.1) = ks) := fun σ H1 x s Q q => h σ H1 x s Q fun v H2 e2 a2 => q v H2 e2 ⟨l, kvs, a2, Ex.dt e2 (Ex.dt x hl), hk⟩
/-- isinstance(e, C), e an instance -/
theorem pd_isiI {C Cu : Addr} {r : Bool} {p : Pos} {y : Str} {py : Pos} (hm : X.mg "isinstance" = none) (hy : X.mg y = some (.ref Cu)) (h : PV X T B e Γ H (fun v H2 => ∃ q dx fs, v = .ref q ∧ H2 q = some (.ins C dx fs))) (cl : Cls X.K C) (i : SIsi X.K C) (hk : PySem.W.kitOne X.K (.ref C) (.ref Cu) = some r)
    (hg : Gl X "isinstance" := by rfl) (hgy : Gl X y := by rfl) (hyd : (y == ("__debug__" : Str)) = false := by decide) (he : starEach [e, .Name y py] X.env = (false, eval e X.env) :: starEach [.Name y py] X.env := by rfl) (he2 : starEach [.Name y py] X.env = (false, eval (.Name y py) X.env) :: starEach [] X.env := by rfl) (hpl : (backTo pos (starEach [.Name y py] X.env)).any (·.1) = false := by rfl) :
    PD X T B (.Call (.Name "isinstance" p) [e, .Name y py] [] pos) Γ H (.b r) := fun σ H1 x s Q q =>
  PE.w (pe_callB call_isi hg hm PyProof.Rows.boot_isinstance (pa_cons (peS X e) (pa_cons (pe_glob (v := .ref Cu) hgy hy rfl hyd) pa_nil he2) he) (by decide) (by decide) he hpl)
    (h σ H1 x s _ fun v H2 e2 ⟨l, dx, fs, ev, hl⟩ => ⟨v, .ref Cu, .ref C, .ref Cu, r, rfl, .own Cu, by rw [ev]; exact .base (.ins hl cl i.ca i.cn i.ct i.cm), hk, q _ H2 e2 rfl⟩)
end
section
variable {P : Program} {w : World} {K : PySem.W.Frag} {mg : Str → Option Value} {base : Heap} {T : List (Addr × Str)}
/-- __init__ of an instance that keeps a dict -/
def spIT (T : List (Addr × Str)) (C : Addr) : Sp := fun vs H Q _ => ∃ (p dx t : Addr) (kvs : List (List Key × V)) (ss : List (List Int)), vs = [.ref p, .ref t] ∧ Tabs T H ∧ H p = some (.ins C dx []) ∧ H t = some (.dT kvs) ∧ kvs.map (·.1) = ss.map sKey ∧ (ss.map sHash).Nodup ∧
  ∀ H', Exb T (fun b => b = p) H H' → (∃ fs, H' p = some (.ins C dx fs)) → Q .non H'
theorem fnr_Ranks (Z : Zk K mg) : FnR P w K mg base CX0 1 (He.fAd K ("Ranks", some "__init__")) (spIT T (He.ga K "Ranks")) := by
  have hN : (["self", "table"] : List Str).Nodup := by decide +kernel
  refine (fnr_of (x := "__init__") (N := ["self", "table"]) (ps := ["self", "table"]) (d := dM 53 0 "Ranks" "__init__" "Ranks.__init__") (k := 0) (Z.d 36 rfl rfl rfl) ⟨rfl, rfl, rfl, hN, rfl, by decide +kernel, by decide +kernel⟩ (fun vs H Q E ⟨p, dx, t, kvs, ss, h, _⟩ => by rw [h]; rfl) (fun _ _ _ _ _ _ us hl => match us, hl with | [_, _], _ => rfl) fun f cd A outer s0 H E hr0 vs Q ⟨p, dx, l, kvs, ss, ev, t, hp, hl, hk, hn, q⟩ => ?_).1
  subst ev
  have body : SD (bx P w K mg base ["self", "table"] (dM 53 0 "Ranks" "__init__" "Ranks.__init__") f cd A outer s0 H E) T (He.ga K "Book") (dM 53 0 "Ranks" "__init__" "Ranks.__init__").body [some (.r p), some (.r l)] H { nx := fun _ H' => Q .non H', rt := Q } := by
    refine sd_fld 0 hp (Z.cls 97 rfl) (Z.noat 102 rfl) (by show 0 < 1000; decide) (pv_dictT (ss := ss) hr0 Z.dict_ (PD.vT (pdv 1) hl hk) hn) ?_
    rintro H1 H2 v e1 _ em hp2 _
    exact sd_nil fun σ H3 e3 s3 => q H3 (((Ex.to e1).trans em).trans (Ex.to e3)) ⟨_, e3.keep p _ hp2 (fun z => z) (fun ps z => by cases z)⟩
  refine body _ H (Exb.refl _) ⟨t, rfl, fun i d h => ?_⟩
  match i, h with
  | 0, h => cases h; exact ⟨_, rfl, rfl⟩
  | 1, h => cases h; exact ⟨_, rfl, rfl⟩
theorem fnr_Geometry (Z : Zk K mg) : FnR P w K mg base CX0 1 (He.fAd K ("Geometry", some "__init__")) (spIT T (He.ga K "Geometry")) := by
  have hN : (["self", "steps"] : List Str).Nodup := by decide +kernel
  refine (fnr_of (x := "__init__") (N := ["self", "steps"]) (ps := ["self", "steps"]) (d := dM 68 0 "Geometry" "__init__" "Geometry.__init__") (k := 0) (Z.d 49 rfl rfl rfl) ⟨rfl, rfl, rfl, hN, rfl, by decide +kernel, by decide +kernel⟩ (fun vs H Q E ⟨p, dx, t, kvs, ss, h, _⟩ => by rw [h]; rfl) (fun _ _ _ _ _ _ us hl => match us, hl with | [_, _], _ => rfl) fun f cd A outer s0 H E hr0 vs Q ⟨p, dx, l, kvs, ss, ev, t, hp, hl, hk, hn, q⟩ => ?_).1
  subst ev
  have body : SD (bx P w K mg base ["self", "steps"] (dM 68 0 "Geometry" "__init__" "Geometry.__init__") f cd A outer s0 H E) T (He.ga K "Book") (dM 68 0 "Geometry" "__init__" "Geometry.__init__").body [some (.r p), some (.r l)] H { nx := fun _ H' => Q .non H', rt := Q } := by
    refine sd_fld 0 hp (Z.cls 99 rfl) (Z.noat 105 rfl) (by show 0 < 1000; decide) (pv_dictT (ss := ss) hr0 Z.dict_ (PD.vT (pdv 1) hl hk) hn) ?_
    rintro H1 H2 v e1 _ em hp2 _
    exact sd_nil fun σ H3 e3 s3 => q H3 (((Ex.to e1).trans em).trans (Ex.to e3)) ⟨_, e3.keep p _ hp2 (fun z => z) (fun ps z => by cases z)⟩
  refine body _ H (Exb.refl _) ⟨t, rfl, fun i d h => ?_⟩
  match i, h with
  | 0, h => cases h; exact ⟨_, rfl, rfl⟩
  | 1, h => cases h; exact ⟨_, rfl, rfl⟩
/-- __init__ of an instance that keeps a set and a pair -/
def spIP (T : List (Addr × Str)) (B C : Addr) : Sp := fun vs H Q _ => ∃ (p dx : Addr) (s : List Int) (a b : Int) (v1 v2 : V), vs = [.ref p, v1, v2] ∧ Tabs T H ∧ H p = some (.ins C dx []) ∧ At B H (sD s) v1 ∧ At B H (.t [.i a, .i b]) v2 ∧
  ∀ H', Exb T (fun b => b = p) H H' → (∃ fs, H' p = some (.ins C dx fs)) → Q .non H'
theorem fnr_Oneway (Z : Zk K mg) : FnR P w K mg base CX0 1 (He.fAd K ("Oneway", some "__init__")) (spIP T (He.ga K "Book") (He.ga K "Oneway")) := by
  have hN : (["self", "closed", "pair"] : List Str).Nodup := by decide +kernel
  refine (fnr_of (x := "__init__") (N := ["self", "closed", "pair"]) (ps := ["self", "closed", "pair"]) (d := dM 54 0 "Oneway" "__init__" "Oneway.__init__") (k := 0) (Z.d 37 rfl rfl rfl) ⟨rfl, rfl, rfl, hN, rfl, by decide +kernel, by decide +kernel⟩ (fun vs H Q E ⟨p, dx, s, a, b, v1, v2, h, _⟩ => by rw [h]; rfl) (fun _ _ _ _ _ _ us hl => match us, hl with | [_, _, _], _ => rfl) fun f cd A outer s0 H E hr0 vs Q ⟨p, dx, s, a, b, v1, v2, ev, t, hp, h1, h2, q⟩ => ?_).1
  subst ev
  have body : SD (bx P w K mg base ["self", "closed", "pair"] (dM 54 0 "Oneway" "__init__" "Oneway.__init__") f cd A outer s0 H E) T (He.ga K "Book") (dM 54 0 "Oneway" "__init__" "Oneway.__init__").body [some (.r p), some (sD s), some (.t [.i a, .i b])] H { nx := fun _ H' => Q .non H', rt := Q } := by
    refine sd_fld 0 hp (Z.cls 98 rfl) (Z.noat 103 rfl) (by show 0 < 1000; decide) (PD.v (pd_tupleT Z.tuple_ (pdv 1))) ?_
    rintro H1 H2 v e1 _ em hp2 _
    refine sd_fld 0 hp2 (Z.cls 98 rfl) (Z.noat 104 rfl) (by show 1 < 1000; decide) (PD.v (pd_tupleT Z.tuple_ (pdv 2))) ?_
    rintro H3 H4 v3 e3 _ em3 hp3 _
    exact sd_nil fun σ H5 e5 s5 => q H5 (((Ex.to e1).trans em).trans (((Ex.to e3).trans em3).trans (Ex.to e5))) ⟨_, e5.keep p _ hp3 (fun z => z) (fun ps z => by cases z)⟩
  refine body _ H (Exb.refl _) ⟨t, rfl, fun i d h => ?_⟩
  match i, h with
  | 0, h => cases h; exact ⟨_, rfl, rfl⟩
  | 1, h => cases h; exact ⟨_, rfl, h1⟩
  | 2, h => cases h; exact ⟨_, rfl, h2⟩
theorem fnr_Exchange (Z : Zk K mg) : FnR P w K mg base CX0 1 (He.fAd K ("Exchange", some "__init__")) (spIP T (He.ga K "Book") (He.ga K "Exchange")) := by
  have hN : (["self", "closed", "pair"] : List Str).Nodup := by decide +kernel
  refine (fnr_of (x := "__init__") (N := ["self", "closed", "pair"]) (ps := ["self", "closed", "pair"]) (d := dM 69 0 "Exchange" "__init__" "Exchange.__init__") (k := 0) (Z.d 50 rfl rfl rfl) ⟨rfl, rfl, rfl, hN, rfl, by decide +kernel, by decide +kernel⟩ (fun vs H Q E ⟨p, dx, s, a, b, v1, v2, h, _⟩ => by rw [h]; rfl) (fun _ _ _ _ _ _ us hl => match us, hl with | [_, _, _], _ => rfl) fun f cd A outer s0 H E hr0 vs Q ⟨p, dx, s, a, b, v1, v2, ev, t, hp, h1, h2, q⟩ => ?_).1
  subst ev
  have body : SD (bx P w K mg base ["self", "closed", "pair"] (dM 69 0 "Exchange" "__init__" "Exchange.__init__") f cd A outer s0 H E) T (He.ga K "Book") (dM 69 0 "Exchange" "__init__" "Exchange.__init__").body [some (.r p), some (sD s), some (.t [.i a, .i b])] H { nx := fun _ H' => Q .non H', rt := Q } := by
    refine sd_fld 0 hp (Z.cls 100 rfl) (Z.noat 106 rfl) (by show 0 < 1000; decide) (PD.v (pd_tupleT Z.tuple_ (pdv 1))) ?_
    rintro H1 H2 v e1 _ em hp2 _
    refine sd_fld 0 hp2 (Z.cls 100 rfl) (Z.noat 107 rfl) (by show 1 < 1000; decide) (PD.v (pd_tupleT Z.tuple_ (pdv 2))) ?_
    rintro H3 H4 v3 e3 _ em3 hp3 _
    exact sd_nil fun σ H5 e5 s5 => q H5 (((Ex.to e1).trans em).trans (((Ex.to e3).trans em3).trans (Ex.to e5))) ⟨_, e5.keep p _ hp3 (fun z => z) (fun ps z => by cases z)⟩
  refine body _ H (Exb.refl _) ⟨t, rfl, fun i d h => ?_⟩
  match i, h with
  | 0, h => cases h; exact ⟨_, rfl, rfl⟩
  | 1, h => cases h; exact ⟨_, rfl, h1⟩
  | 2, h => cases h; exact ⟨_, rfl, h2⟩
end
end G30
set_option Elab.async false
set_option linter.all false
set_option maxRecDepth 100000
set_option maxHeartbeats 4000000
set_option autoImplicit false
namespace G30
open PySem PySem.Spec PyProof.Rows L2 LamX StX SlX
section
variable {P : Program} {w : World} {K : PySem.W.Frag} {mg : Str → Option Value} {base : Heap} {T : List (Addr × Str)}
def noPair (f : Nat → Rules → List Int → Int → Int → Bool) (m : Nat) (rs : Rules) (s : List Int) : Bool := (restM m s).all fun a => (restM m s).all fun b => !f m rs s a b
theorem noPair_iff {f : Nat → Rules → List Int → Int → Int → Bool} {m : Nat} {rs : Rules} {s : List Int} : noPair f m rs s = true ↔ ∀ a ∈ restM m s, ∀ b ∈ restM m s, f m rs s a b = false := by
  unfold noPair
  rw [List.all_eq_true]
  constructor
  · intro h a ha b hb
    have := List.all_eq_true.mp (h a ha) b hb
    simpa using this
  · intro h a ha
    rw [List.all_eq_true]
    intro b hb
    rw [h a ha b hb]
    rfl
noncomputable def hasEx (m : Nat) (rs : Rules) : Bool := (shutSets m rs).all (noPair badE m rs)
noncomputable def isGeo (m : Nat) (rs : Rules) : Bool := (shutSets m rs).all (noPair badG m rs)
/-- a judgement: an instance of C1 if c holds, else of C0 -/
def spJ (T : List (Addr × Str)) (B C1 C0 : Addr) (c : Nat → Rules → Bool) : Sp := fun vs H Q _ => ∃ (m : Nat) (rs : Rules), OkR m rs ∧ AtL B H [bkD m rs] vs ∧ Tabs T H ∧ ∀ H' x C dx fs, Ex T H H' → H' x = some (.ins C dx fs) → C = (if c m rs = true then C1 else C0) → Q (.ref x) H'
theorem setsOf_nd {m : Nat} (h : m ≤ 5) : ((setsOf m).map sHash).Nodup := ((List.mergeSort_perm (subs m) _).map sHash).nodup_iff.mpr (hash_nd ⟨m, by omega⟩)
theorem nd_of_map {α β : Type} {f : α → β} {l : List α} (h : (l.map f).Nodup) : l.Nodup := by
  rw [List.nodup_iff_pairwise_ne] at h ⊢
  rw [List.pairwise_map] at h
  exact h.imp fun h e => h (by rw [e])
theorem all_false {α : Type} {p : α → Bool} {l : List α} {a : α} (ha : a ∈ l) (h : p a = false) : l.all p = false := by
  cases e : l.all p with
  | false => rfl
  | true => rw [List.all_eq_true.mp e a ha] at h; cases h
theorem shutSets_sz {m : Nat} {rs : Rules} (h : m ≤ 5) : (shutSets m rs).length < sizeLine := Nat.lt_of_le_of_lt (List.length_filter_le _ _) (setsOf_sz h)
theorem mem_shutSets {m : Nat} {rs : Rules} {s : List Int} (h : s ∈ shutSets m rs) : OkS m s ∧ isShut rs s = true := ⟨mem_setsOf (List.mem_filter.mp h).1, (List.mem_filter.mp h).2⟩
theorem has_judge_exchange (Z : Zk K mg) (TB : TbF K mg base) : Has P w K mg base 6 "judge_exchange" (spJ (tabsT K) (He.ga K "Book") (He.ga K "Ranks") (He.ga K "Oneway") hasEx) := by
  have hN : (["book", "thing", "pair"] : List Str).Nodup := by decide +kernel
  obtain ⟨h1, h2⟩ := fnr_of (x := "judge_exchange") (P := P) (w := w) (base := base) (sp := spJ (tabsT K) (He.ga K "Book") (He.ga K "Ranks") (He.ga K "Oneway") hasEx) (N := ["book", "thing", "pair"]) (ps := ["book"]) (d := dF 57 "judge_exchange" "judge_exchange") (k := 5) (Z.d 40 rfl rfl rfl) ⟨rfl, rfl, rfl, hN, rfl, by decide +kernel, by decide +kernel⟩ (fun vs H Q E ⟨m, rs, _, h, _⟩ => by rw [h.len]; rfl) (fun _ _ _ _ _ _ us hl => match us, hl with | [_], _ => rfl)
    fun f cd A outer s0 H E hr0 vs Q ⟨m, rs, ho, ha, t, q⟩ => by
      have h5 := ho.m5
      have body : SD (bx P w K mg base ["book", "thing", "pair"] (dF 57 "judge_exchange" "judge_exchange") f cd A outer s0 H E) (tabsT K) (He.ga K "Book") (dF 57 "judge_exchange" "judge_exchange").body (startG ["book", "thing", "pair"] [bkD m rs]) H { nx := fun _ H' => Q .non H', rt := Q } := by
        refine sd_expr ((pd_call (has_check_book Z) hr0 (ad_cons (pdv 0) ad_nil) ⟨_, _, rfl, rfl⟩)) ?_
        refine sd_for (S := Nob) (shutSets m rs) sD (fun k _ => ∀ s ∈ (shutSets m rs).take k, noPair badE m rs s = true) (fun _ => [some (bkD m rs), none, none]) (fun _ s => [some (bkD m rs), some (sD s), none]) PassesOwn.never rfl
          (id_listR (PL.r (pl_methB0 Z.bk Z.m_shut (fnr_shut Z TB) hr0 (by decide) (pdv 0) ⟨_, _, rfl⟩ ⟨_, _, ho, rfl, rfl⟩))) (pg_name (i := 1) hN rfl (by first | exact .inl rfl | exact .inr rfl)) (fun k s _ => gd_name) (fun _ _ a ha => by (rw [List.take_zero] at ha; cases ha)) (gle (by repeat' first | exact True.intro | exact rfl | refine And.intro ?_ ?_)) (fun _ _ _ h _ => h) ?_ ?_
        · rintro H2 e2 k s H' hs eb hM
          have hsm : s ∈ shutSets m rs := List.mem_of_getElem? hs
          have os := (mem_shutSets hsm).1
          have tk : (shutSets m rs).take (k + 1) = (shutSets m rs).take k ++ [s] := by rw [List.take_add_one, hs]; rfl
          refine sd_setV (i := 2) hN rfl (.inl rfl) (pv_callE (has_oneway_at Z) hr0 (ad_cons (pdv 0) (ad_cons (pdv 1) ad_nil)) ⟨m, rs, s, ho, os, rfl⟩) fun d hd => ?_
          rcases hd m rs s rfl with ⟨rfl, hno⟩ | ⟨a, b, rfl, ha1, hb1, hf⟩
          · refine sd_skip (td_notN (b := false) (pdv 2) (hd := fun H v h => ?_)) ?_
            · rw [show v = V.non from h]
              rfl
            · refine sd_nil fun σ H4 e4 s4 => ⟨eb.trans e4, s4.gle (gle (by repeat' first | exact True.intro | exact rfl | refine And.intro ?_ ?_)), fun t ht => ?_⟩
              rw [tk] at ht
              rcases List.mem_append.mp ht with z | z
              · exact hM t z
              · rw [List.mem_singleton.mp z]; exact noPair_iff.mpr hno
          · refine sd_if (l := true) (td_notN (b := true) (pdv 2) (hd := fun H v h => ?_)) (fun _ => ?_) (fun z => by cases z)
            · obtain ⟨l, vs, rfl, _⟩ := h
              rfl
            · refine sd_mkA (Z.mkr 93 rfl) (fnr_Oneway (T := tabsT K) Z) (hr0.mono (by decide)) (Z.glo 69 rfl) (ad_cons (pdv 1) (ad_cons (pdv 2) ad_nil)) ?_
              rintro H1 vs2 px dx e1 hv hnx en
              obtain ⟨v1, v2, rfl, b1, b2⟩ := hv.two
              refine ⟨px, dx, s, a, b, v1, v2, rfl, (e2.trans (eb.trans (e1.trans en))).tabs t, upd_same, b1.mono en, b2.mono en, fun H3 e3 ⟨fs, hf3⟩ => ⟨rfl, ?_⟩⟩
              refine q H3 px _ dx fs (((Ex.to (e2.trans (eb.trans (e1.trans en)))).trans e3).drop fun b hb => by rw [hb]; exact (e2.trans (eb.trans e1)).free (Nw.of hnx)) hf3 ?_
              have hno : hasEx m rs = false := all_false hsm (by
                cases z : noPair badE m rs s with
                | false => rfl
                | true => rw [noPair_iff.mp z a ha1 b hb1] at hf; cases hf)
              rw [hno]
              rfl
        · intro H2 eb hM
          rw [List.take_length] at hM
          have hyes : hasEx m rs = true := List.all_eq_true.mpr hM
          have nd := setsOf_nd h5
          refine sd_mk1 (W := fun v H2 => ∃ p kvs, v = .ref p ∧ H2 p = some (.dT kvs) ∧ kvs.map (·.1) = ((setsOf m).map fun s => s).map sKey) (Z.mkr 92 rfl) (fnr_Ranks (T := tabsT K) Z) (hr0.mono (by decide)) (Z.glo 68 rfl)
            (pv_dcT (own := [("thing", 1)]) (is := [1]) (setsOf m) sD (fun s => s) _ _ hr0 rfl hN (id_listR (PL.r (pl_methB0 Z.bk Z.m_all (fnr_all Z TB) hr0 (by decide) (pdv 0) ⟨_, _, rfl⟩ ⟨_, _, ho, rfl, rfl⟩))) (blk_ok (by kernel_rfl)) (fun _ _ _ _ _ => pg_name (i := 1) hN rfl (by first | exact .inl rfl | exact .inr rfl)) (fun a ha => gd_name) (by decide) (fun a ha s0 H0 C cl fp => pdv 1) (fun a ha s0 H0 C cl fp => (pd_call (has_rank_of Z) hr0 (ad_cons (pdv 0) (ad_cons (pdv 1) ad_nil)) ⟨_, _, _, ho, ?_, rfl, rfl⟩)) (setsOf_sz h5) (by rw [List.map_id']; exact nd_of_map nd)) ?_
          · exact mem_setsOf ‹_›
          rintro H1 v px dx e1 ⟨p, kvs, rfl, hp, hk⟩ hnx en
          rw [List.map_id'] at hk
          refine ⟨px, dx, p, kvs, setsOf m, rfl, ((eb.trans (e1.trans en))).tabs t, upd_same, Ex.dt en hp, hk, nd, fun H3 e3 ⟨fs, hf3⟩ => ⟨rfl, ?_⟩⟩
          refine q H3 px _ dx fs (((Ex.to (eb.trans (e1.trans en))).trans e3).drop fun b hb => by rw [hb]; exact (eb.trans e1).free (Nw.of hnx)) hf3 ?_
          rw [hyes]
          rfl
      exact body _ H (Exb.refl _) (sl_start t ha)
  exact ⟨_, Z.glo 33 rfl, h2, h1⟩
theorem pv_judge {X : Cx} {B C1 C0 : Addr} {Γ : List (Option D)} {H : Hp} {e : Expr} {p pos : Pos} {j k m : Nat} {rs : Rules} {x : Str} {c : Nat → Rules → Bool} (F : Has X.prog X.w X.K X.mg X.base j x (spJ T B C1 C0 c)) (hr : Room k X.A) (ho : OkR m rs) (ha : PD X T B e Γ H (bkD m rs)) (hjk : j ≤ k := by decide) (hg : Gl X x := by rfl) (hd : (x == ("__debug__" : Str)) = false := by decide)
    (he : starEach [e] X.env = (false, eval e X.env) :: starEach [] X.env := by rfl) (hpl : (backTo pos (starEach [] X.env)).any (·.1) = false := by rfl) : PV X T B (.Call (.Name x p) [e] [] pos) Γ H (fun v H2 => ∃ q dx fs, v = .ref q ∧ H2 q = some (.ins (if c m rs = true then C1 else C0) dx fs)) := fun σ H1 x1 s Q q => by
  obtain ⟨f, hm, hk, F⟩ := F
  exact PE.w (pe_callR F (hr.mono hjk) hk hg hm pass0 (paS X [e]) hd he hpl) (ad_cons ha ad_nil he σ H1 x1 s _ fun vs H2 e2 at2 => ⟨m, rs, ho, at2, e2.tabs s.tabs, fun H' y C dx fs e3 hy hC => q _ H' (e2.trans e3) ⟨y, dx, fs, rfl, by rw [← hC]; exact hy⟩⟩)
def R_has_exchange (ds : List D) (d : D) : Prop := ∃ (m : Nat) (rs : Rules), OkR m rs ∧ ds = [bkD m rs] ∧ d = .b (hasEx m rs)
theorem ins_imp {X : Cx} {B C C' : Addr} {Γ : List (Option D)} {H : Hp} {e : Expr} (h : PV X T B e Γ H (fun v H2 => ∃ q dx fs, v = .ref q ∧ H2 q = some (.ins C dx fs))) (hC : C = C') : PV X T B e Γ H (fun v H2 => ∃ q dx fs, v = .ref q ∧ H2 q = some (.ins C' dx fs)) := hC ▸ h
theorem has_has_exchange (Z : Zk K mg) (TB : TbF K mg base) : Has P w K mg base 7 "has_exchange" (spD (tabsT K) (He.ga K "Book") R_has_exchange) := by
  have hN : (["book"] : List Str).Nodup := by decide +kernel
  refine has_D (N := ["book"]) (ps := ["book"]) (d := dF 58 "has_exchange" "has_exchange") (Z.d 41 rfl rfl rfl) (Z.glo 34 rfl) ⟨rfl, rfl, rfl, hN, rfl, by decide +kernel, by decide +kernel⟩ ?hlen (fun _ _ _ _ _ _ us hl => match us, hl with | [_], _ => rfl) (fun f cd A outer s0 H E hr0 ds r hR Q q => ?body)
  case hlen => exact fun ds d ⟨_, _, _, h, _⟩ => by rw [h]; rfl
  obtain ⟨m, rs, ho, rfl, rfl⟩ := hR
  cases hx : hasEx m rs with
  | true =>
    rw [hx] at q
    exact sd_ret (pd_isiI Z.isinstance (Z.glo 68 rfl) (ins_imp (pv_judge (has_judge_exchange Z TB) hr0 ho (pdv 0)) (if_pos hx)) (Z.cls 97 rfl) Z.ex.iR Z.ex.kR) q
  | false =>
    rw [hx] at q
    exact sd_ret (pd_isiI Z.isinstance (Z.glo 68 rfl) (ins_imp (pv_judge (has_judge_exchange Z TB) hr0 ho (pdv 0)) (if_neg (by rw [hx]; exact Bool.false_ne_true))) (Z.cls 98 rfl) Z.ex.iO Z.ex.kO) q
end
end G30
set_option Elab.async false
set_option linter.all false
set_option maxRecDepth 100000
set_option maxHeartbeats 4000000
set_option autoImplicit false
namespace G30
open PySem PySem.Spec PyProof.Rows L2 LamX StX SlX
section
variable {P : Program} {w : World} {K : PySem.W.Frag} {mg : Str → Option Value} {base : Heap} {T : List (Addr × Str)}
theorem has_judge_geometry (Z : Zk K mg) (TB : TbF K mg base) : Has P w K mg base 6 "judge_geometry" (spJ (tabsT K) (He.ga K "Book") (He.ga K "Geometry") (He.ga K "Exchange") isGeo) := by
  have hN : (["book", "steps", "one", "pair"] : List Str).Nodup := by decide +kernel
  obtain ⟨h1, h2⟩ := fnr_of (x := "judge_geometry") (P := P) (w := w) (base := base) (sp := spJ (tabsT K) (He.ga K "Book") (He.ga K "Geometry") (He.ga K "Exchange") isGeo) (N := ["book", "steps", "one", "pair"]) (ps := ["book"]) (d := dF 70 "judge_geometry" "judge_geometry") (k := 5) (Z.d 51 rfl rfl rfl) ⟨rfl, rfl, rfl, hN, rfl, by decide +kernel, by decide +kernel⟩ (fun vs H Q E ⟨m, rs, _, h, _⟩ => by rw [h.len]; rfl) (fun _ _ _ _ _ _ us hl => match us, hl with | [_], _ => rfl)
    fun f cd A outer s0 H E hr0 vs Q ⟨m, rs, ho, ha, t, q⟩ => by
      have h5 := ho.m5
      have nd := setsOf_nd h5
      have ndS : ((shutSets m rs).map sHash).Nodup := nd.sublist (List.filter_sublist.map sHash)
      have ndL : (shutSets m rs).Nodup := nd_of_map ndS
      have body : SD (bx P w K mg base ["book", "steps", "one", "pair"] (dF 70 "judge_geometry" "judge_geometry") f cd A outer s0 H E) (tabsT K) (He.ga K "Book") (dF 70 "judge_geometry" "judge_geometry").body (startG ["book", "steps", "one", "pair"] [bkD m rs]) H { nx := fun _ H' => Q .non H', rt := Q } := by
        refine sd_expr ((pd_call (has_check_book Z) hr0 (ad_cons (pdv 0) ad_nil) ⟨_, _, rfl, rfl⟩)) ?_
        refine sd_newT (i := 1) hN rfl (.inl rfl) fun p H1 hn1 e1 hp => ?_
        refine sd_for (S := fun b => b = p) (shutSets m rs) sD (fun k H' => (∃ kvs, H' p = some (.dT kvs) ∧ kvs.map (·.1) = (((shutSets m rs).take k).filter fun s => !decide (s = mks m)).map sKey) ∧ ∀ s ∈ (shutSets m rs).take k, noPair badG m rs s = true)
          (fun _ => [some (bkD m rs), some (.r p), none, none]) (fun _ s => [some (bkD m rs), some (.r p), some (sD s), none]) PassesOwn.never rfl
          (id_list (pl_methB0 Z.bk Z.m_shut (fnr_shut Z TB) hr0 (by decide) (pdv 0) ⟨_, _, rfl⟩ ⟨_, _, ho, rfl, rfl⟩) (fun b hb => by rw [hb]; exact fun z => by obtain ⟨ps, y⟩ := z _ hp; cases y)) (pg_name (i := 2) hN rfl (by first | exact .inl rfl | exact .inr rfl)) (fun k s _ => gd_name)
          (fun H2 e => ⟨⟨[], Ex.dt e hp, by rw [List.take_zero]; rfl⟩, fun a ha => by (rw [List.take_zero] at ha; cases ha)⟩) (gle (by repeat' first | exact True.intro | exact rfl | refine And.intro ?_ ?_)) (fun k H2 H3 ⟨⟨kvs, h, hk⟩, hM⟩ e => ⟨⟨kvs, Ex.dt e h, hk⟩, hM⟩) ?_ ?_
        · rintro H2 e2 k s H' hs eb ⟨⟨kvs, hd, hk⟩, hM⟩
          have hsm : s ∈ shutSets m rs := List.mem_of_getElem? hs
          have os := (mem_shutSets hsm).1
          have tk : (shutSets m rs).take (k + 1) = (shutSets m rs).take k ++ [s] := by rw [List.take_add_one, hs]; rfl
          have lk : kvs.length ≤ (shutSets m rs).length := by
            have := congrArg List.length hk
            rw [List.length_map, List.length_map] at this
            have l2 := List.length_filter_le (fun s => !decide (s = mks m)) ((shutSets m rs).take k)
            rw [List.length_take] at l2
            omega
          have lz := shutSets_sz (rs := rs) h5
          have nin : s ∉ (shutSets m rs).take k := fun hm => by
            have h3 : ((shutSets m rs).take (k + 1)).Nodup := ndL.sublist (List.take_sublist _ _)
            rw [tk, List.nodup_append] at h3
            exact h3.2.2 s hm s List.mem_cons_self rfl
          refine sd_setV (i := 3) hN rfl (.inl rfl) (pv_callE (has_exchange_at Z) hr0 (ad_cons (pdv 0) (ad_cons (pdv 2) ad_nil)) ⟨m, rs, s, ho, os, rfl⟩) fun d hd2 => ?_
          rcases hd2 m rs s rfl with ⟨rfl, hno⟩ | ⟨a, b, rfl, ha1, hb1, hf⟩
          · refine sd_skip (td_notN (b := false) (pdv 3) (hd := fun H v h => ?_)) ?_
            · rw [show v = V.non from h]
              rfl
            have hall : ∀ t ∈ (shutSets m rs).take (k + 1), noPair badG m rs t = true := fun t ht => by
              rw [tk] at ht
              rcases List.mem_append.mp ht with z | z
              · exact hM t z
              · rw [List.mem_singleton.mp z]; exact noPair_iff.mpr hno
            refine sd_if (l := !decide (s = mks m)) (td_neS hr0 (pdv 2) (pd_call (has_whole_of Z) hr0 (ad_cons (pdv 0) ad_nil) ⟨_, _, ho, rfl, rfl⟩)) (fun hw => ?_) (fun hw => ?_)
            · refine sd_putT 1 (W := fun v H2 => ∃ d, True ∧ At (He.ga K "Book") H2 d v) hr0 hd (by omega) (pdv 2) (pv_callE (has_step_from Z) hr0 (ad_cons (pdv 0) (ad_cons (pdv 2) ad_nil)) ⟨m, rs, s, ho, os, rfl⟩) ?_
              intro H3 v e3 h3
              refine sd_nil fun σ H4 e4 s4 => wS_nil ⟨(eb.trans e3).trans (Ex.to e4), s4.gle (gle (by repeat' first | exact True.intro | exact rfl | refine And.intro ?_ ?_)), ⟨_, Ex.dt e4 h3, ?_⟩, hall⟩
              rw [tk, List.filter_append]
              have ef : [s].filter (fun s => !decide (s = mks m)) = [s] := by rw [List.filter_cons, if_pos hw, List.filter_nil]
              rw [ef]
              exact putK_keys hk fun hm => nin (List.mem_filter.mp hm).1
            · refine sd_nil fun σ H4 e4 s4 => wS_nil ⟨eb.trans (Ex.to e4), s4.gle (gle (by repeat' first | exact True.intro | exact rfl | refine And.intro ?_ ?_)), ⟨kvs, Ex.dt e4 hd, ?_⟩, hall⟩
              rw [tk, List.filter_append]
              have ef : [s].filter (fun s => !decide (s = mks m)) = [] := by rw [List.filter_cons, if_neg (by rw [hw]; exact Bool.false_ne_true), List.filter_nil]
              rw [ef, List.append_nil]
              exact hk
          · refine sd_if (l := true) (td_notN (b := true) (pdv 3) (hd := fun H v h => ?_)) (fun _ => ?_) (fun z => by cases z)
            · obtain ⟨l, vs, rfl, _⟩ := h
              rfl
            · refine sd_mkA (Z.mkr 95 rfl) (fnr_Exchange (T := tabsT K) Z) (hr0.mono (by decide)) (Z.glo 71 rfl) (ad_cons (pdv 2) (ad_cons (pdv 3) ad_nil)) ?_
              rintro H3 vs2 px dx e3 hv hnx en
              obtain ⟨v1, v2, rfl, b1, b2⟩ := hv.two
              have eall : Exb (tabsT K) (fun b => b = p) H H3 := (Ex.to e1).trans ((Ex.to e2).trans (eb.trans (Ex.to e3)))
              have eH : Ex (tabsT K) H H3 := eall.drop fun b hb => by rw [hb]; exact hn1
              refine ⟨px, dx, s, a, b, v1, v2, rfl, (eH.trans en).tabs t, upd_same, b1.mono en, b2.mono en, fun H4 e4 ⟨fs, hf4⟩ => ⟨rfl, ?_⟩⟩
              refine q H4 px _ dx fs (((Ex.to (eH.trans en)).trans e4).drop fun b hb => by rw [hb]; exact eH.free (Nw.of hnx)) hf4 ?_
              have hno : isGeo m rs = false := all_false hsm (by
                cases z : noPair badG m rs s with
                | false => rfl
                | true => rw [noPair_iff.mp z a ha1 b hb1] at hf; cases hf)
              rw [hno]
              rfl
        · rintro H2 eb ⟨⟨kvs, hd, hk⟩, hM⟩
          rw [List.take_length] at hM hk
          have hyes : isGeo m rs = true := List.all_eq_true.mpr hM
          have eH : Ex (tabsT K) H H2 := ((Ex.to e1).trans eb).drop fun b hb => by rw [hb]; exact hn1
          refine sd_mk1 (W := fun v H2 => ∃ p kvs, v = .ref p ∧ H2 p = some (.dT kvs) ∧ kvs.map (·.1) = ((shutSets m rs).filter fun s => !decide (s = mks m)).map sKey) (Z.mkr 94 rfl) (fnr_Geometry (T := tabsT K) Z) (hr0.mono (by decide)) (Z.glo 70 rfl) (PD.vT (pdv 1) hd hk) ?_
          rintro H3 v px dx e3 ⟨p2, kvs2, rfl, hp2, hk2⟩ hnx en
          refine ⟨px, dx, p2, kvs2, (shutSets m rs).filter fun s => !decide (s = mks m), rfl, (eH.trans (e3.trans en)).tabs t, upd_same, Ex.dt en hp2, hk2, ndS.sublist (List.filter_sublist.map sHash), fun H4 e4 ⟨fs, hf4⟩ => ⟨rfl, ?_⟩⟩
          refine q H4 px _ dx fs (((Ex.to (eH.trans (e3.trans en))).trans e4).drop fun b hb => by rw [hb]; exact (eH.trans e3).free (Nw.of hnx)) hf4 ?_
          rw [hyes]
          rfl
      exact body _ H (Exb.refl _) (sl_start t ha)
  exact ⟨_, Z.glo 42 rfl, h2, h1⟩
def R_is_geometry (ds : List D) (d : D) : Prop := ∃ (m : Nat) (rs : Rules), OkR m rs ∧ ds = [bkD m rs] ∧ d = .b (isGeo m rs)
theorem has_is_geometry (Z : Zk K mg) (TB : TbF K mg base) : Has P w K mg base 7 "is_geometry" (spD (tabsT K) (He.ga K "Book") R_is_geometry) := by
  have hN : (["book"] : List Str).Nodup := by decide +kernel
  refine has_D (N := ["book"]) (ps := ["book"]) (d := dF 71 "is_geometry" "is_geometry") (Z.d 52 rfl rfl rfl) (Z.glo 43 rfl) ⟨rfl, rfl, rfl, hN, rfl, by decide +kernel, by decide +kernel⟩ ?hlen (fun _ _ _ _ _ _ us hl => match us, hl with | [_], _ => rfl) (fun f cd A outer s0 H E hr0 ds r hR Q q => ?body)
  case hlen => exact fun ds d ⟨_, _, _, h, _⟩ => by rw [h]; rfl
  obtain ⟨m, rs, ho, rfl, rfl⟩ := hR
  cases hx : isGeo m rs with
  | true =>
    rw [hx] at q
    exact sd_ret (pd_isiI Z.isinstance (Z.glo 70 rfl) (ins_imp (pv_judge (has_judge_geometry Z TB) hr0 ho (pdv 0)) (if_pos hx)) (Z.cls 99 rfl) Z.ex.iG Z.ex.kG) q
  | false =>
    rw [hx] at q
    exact sd_ret (pd_isiI Z.isinstance (Z.glo 70 rfl) (ins_imp (pv_judge (has_judge_geometry Z TB) hr0 ho (pdv 0)) (if_neg (by rw [hx]; exact Bool.false_ne_true))) (Z.cls 100 rfl) Z.ex.iE Z.ex.kE) q
def R_check_exchange (ds : List D) (d : D) : Prop := ∃ (m : Nat) (rs : Rules), OkR m rs ∧ hasEx m rs = true ∧ ds = [bkD m rs] ∧ d = .n
theorem has_check_exchange (Z : Zk K mg) (TB : TbF K mg base) : Has P w K mg base 8 "check_exchange" (spD (tabsT K) (He.ga K "Book") R_check_exchange) := by
  have hN : (["book"] : List Str).Nodup := by decide +kernel
  refine has_D (N := ["book"]) (ps := ["book"]) (d := dF 59 "check_exchange" "check_exchange") (Z.d 42 rfl rfl rfl) (Z.glo 35 rfl) ⟨rfl, rfl, rfl, hN, rfl, by decide +kernel, by decide +kernel⟩ ?hlen (fun _ _ _ _ _ _ us hl => match us, hl with | [_], _ => rfl) (fun f cd A outer s0 H E hr0 ds r hR Q q => ?body)
  case hlen => exact fun ds d ⟨_, _, _, _, h, _⟩ => by rw [h]; rfl
  obtain ⟨m, rs, ho, hx, rfl, rfl⟩ := hR
  exact sd_skip (TD.is (td_not (td_val (pd_call (has_has_exchange Z TB) hr0 (ad_cons (pdv 0) ad_nil) ⟨_, _, ho, rfl, rfl⟩))) (by rw [hx]; rfl)) (sd_nil fun σ H1 e s => q .non H1 e rfl)
def R_rank (ds : List D) (d : D) : Prop := ∃ (m : Nat) (rs : Rules) (s : List Int), OkR m rs ∧ hasEx m rs = true ∧ OkS m s ∧ ds = [bkD m rs, sD s] ∧ d = .i (rankM m rs s)
theorem has_rank (Z : Zk K mg) (TB : TbF K mg base) : Has P w K mg base 9 "rank" (spD (tabsT K) (He.ga K "Book") R_rank) := by
  have hN : (["book", "thing"] : List Str).Nodup := by decide +kernel
  refine has_D (N := ["book", "thing"]) (ps := ["book", "thing"]) (d := dF 60 "rank" "rank") (Z.d 43 rfl rfl rfl) (Z.glo 36 rfl) ⟨rfl, rfl, rfl, hN, rfl, by decide +kernel, by decide +kernel⟩ ?hlen (fun _ _ _ _ _ _ us hl => match us, hl with | [_, _], _ => rfl) (fun f cd A outer s0 H E hr0 ds r hR Q q => ?body)
  case hlen => exact fun ds d ⟨_, _, _, _, _, _, h, _⟩ => by rw [h]; rfl
  obtain ⟨m, rs, s, ho, hx, hs, rfl, rfl⟩ := hR
  refine sd_expr ((pd_call (has_check_exchange Z TB) hr0 (ad_cons (pdv 0) ad_nil) ⟨_, _, ho, hx, rfl, rfl⟩)) ?_
  refine sd_expr ((pd_call (has_check_set Z) hr0 (ad_cons (pd_bkM Z.bk (pdv 0)) (ad_cons (pdv 1) ad_nil)) ⟨_, _, ?_, ?_, rfl, rfl⟩)) ?_
  · exact ho.m5
  · exact hs
  refine sd_ret (pd_call (has_rank_of Z) hr0 (ad_cons (pdv 0) (ad_cons (pdv 1) ad_nil)) ⟨_, _, _, ho, ?_, rfl, rfl⟩) q
  exact hs
noncomputable def basesM (m : Nat) (rs : Rules) : List (List Int) := (setsOf m).filter fun s => decide ((s.length : Int) = (rankM m rs (mks m) : Int)) && decide (clo m rs s = mks m)
def R_bases (ds es : List D) : Prop := ∃ (m : Nat) (rs : Rules), OkR m rs ∧ hasEx m rs = true ∧ ds = [bkD m rs] ∧ es = (basesM m rs).map sD
theorem has_bases (Z : Zk K mg) (TB : TbF K mg base) : Has P w K mg base 9 "bases" (spL (tabsT K) (He.ga K "Book") R_bases) := by
  have hN : (["book", "size", "every", "thing"] : List Str).Nodup := by decide +kernel
  refine has_L (N := ["book", "size", "every", "thing"]) (ps := ["book"]) (d := dF 61 "bases" "bases") (Z.d 44 rfl rfl rfl) (Z.glo 37 rfl) ⟨rfl, rfl, rfl, hN, rfl, by decide +kernel, by decide +kernel⟩ ?hlen (fun _ _ _ _ _ _ us hl => match us, hl with | [_], _ => rfl) (fun f cd A outer s0 H E hr0 ds r hR Q q => ?body)
  case hlen => exact fun ds d ⟨_, _, _, _, h, _⟩ => by rw [h]; rfl
  obtain ⟨m, rs, ho, hx, rfl, rfl⟩ := hR
  have h5 := ho.m5
  refine sd_expr ((pd_call (has_check_exchange Z TB) hr0 (ad_cons (pdv 0) ad_nil) ⟨_, _, ho, hx, rfl, rfl⟩)) ?_
  refine sd_set (i := 1) hN rfl (by first | exact .inl rfl | exact .inr rfl) (pd_call (has_rank_of Z) hr0 (ad_cons (pdv 0) (ad_cons (pd_call (has_whole_of Z) hr0 (ad_cons (pdv 0) ad_nil) ⟨_, _, ho, rfl, rfl⟩) ad_nil)) ⟨_, _, _, ho, ?_, rfl, rfl⟩) ?_
  · exact mks_ok m
  refine sd_setL (i := 2) hN rfl (by first | exact .inl rfl | exact .inr rfl) (pl_methB0 Z.bk Z.m_all (fnr_all Z TB) hr0 (by decide) (pdv 0) ⟨_, _, rfl⟩ ⟨_, _, ho, rfl, rfl⟩) ?_
  intro p vs H1 hn1 e1 hp hv
  refine sd_retL (PL.is (pl_lcI (own := [("thing", 3)]) (is := [3]) (setsOf m) (sD) _ _ _ rfl hN (id_listR (prv 2 (SqL.of hp) hv)) (blk_ok (by kernel_rfl)) (fun _ _ _ _ _ => pg_name (i := 3) hN rfl (by first | exact .inl rfl | exact .inr rfl)) (fun a ha => (gd_name)) (by decide) (fun a ha s0 H0 C cl fp => (WD.t (wd_and (td_eqI (pd_lenT Z.len (pdv 3)) (pdv 1)) (fun _ => (wd_and1 (td_eqS hr0 (pd_call (has_closure Z) hr0 (ad_cons (pd_bkR Z.bk (pdv 0)) (ad_cons (pdv 3) ad_nil)) ⟨_, _, _, ho, ?_, ?_, rfl, rfl⟩) (pd_call (has_whole_of Z) hr0 (ad_cons (pdv 0) ad_nil) ⟨_, _, ho, rfl, rfl⟩))))))) (fun a ha hp s0 H0 C cl fp => (pdv 3)) ?_) ?_) fun p2 vs2 H2 hn2 e2 hp2 hv2 => q p2 vs2 H2 (e1.free hn2) (e1.trans e2) hp2 hv2
  · exact (mem_setsOf ‹_›).rg
  · exact (mem_setsOf ‹_›).l64 h5
  · exact setsOf_sz h5
  · unfold basesM
    congr 2
    funext s
    rw [List.length_map]
end
end G30
set_option Elab.async false
set_option linter.all false
set_option maxRecDepth 100000
set_option maxHeartbeats 4000000
set_option autoImplicit false
namespace G30
open PySem PySem.Spec PyProof.Rows L2 LamX StX SlX
/-! ### what draws do: the list of draws at p is changed, all else is kept -/
def DR (H : Hp) (p : Addr) : Prop := ∃ ns : List Int, H p = some (.lst (ns.map V.int))
theorem DR.ex {T : List (Addr × Str)} {H H' : Hp} {p : Addr} (h : DR H p) (e : Ex T H H') : DR H' p := by
  obtain ⟨ns, h⟩ := h
  exact ⟨ns, Ex.lst e h⟩
section
variable (X : Cx) (T : List (Addr × Str)) (B p : Addr)
/-- e draws and gives data that R tells -/
def PX (e : Expr) (Γ : List (Option D)) (R : D → Prop) : Prop := ∀ σ H1, DR H1 p → Sl T B H1 σ Γ → ∀ Q : VK, (∀ d v H2, Exb T (fun b => b = p) H1 H2 → DR H2 p → R d → At B H2 d v → Q v H2) → wE X e σ H1 Q
/-- a test that draws -/
def TX (e : Expr) (Γ : List (Option D)) : Prop := ∀ σ H1, DR H1 p → Sl T B H1 σ Γ → ∀ Q : Bool → Hp → Prop, (∀ k H2, Exb T (fun b => b = p) H1 H2 → DR H2 p → Q k H2) → wT X e σ H1 Q
end
section
variable {X : Cx} {T : List (Addr × Str)} {B p : Addr} {Γ Γ' : List (Option D)} {H H' : Hp} {d : D} {ds : List D} {e a b c : Expr} {es : List Expr} {F : Ends} {rest body orelse : List Stmt} {pos pos' : Pos} {x : Str} {R R1 R2 : D → Prop}
theorem px_pd (h : ∀ H, PD X T B e Γ H d) : PX X T B p e Γ (fun d' => d' = d) := fun σ H1 dr s Q q => h H1 σ H1 (Exb.refl _) s Q fun v H2 e2 a2 => q d v H2 (Ex.to e2) (dr.ex e2) rfl a2
theorem PX.imp (h : PX X T B p e Γ R) (hR : ∀ d, R d → R1 d) : PX X T B p e Γ R1 := fun σ H1 dr s Q q => h σ H1 dr s Q fun d v H2 e2 d2 r2 a2 => q d v H2 e2 d2 (hR d r2) a2
/-- k + e -/
theorem px_addL {k : Int} (ha : ∀ H, PD X T B a Γ H (.i k)) (hb : PX X T B p b Γ (fun d => ∃ n, d = .i n ∧ R1 (.i n))) : PX X T B p (.BinOp a .Add b pos) Γ (fun d => ∃ n, d = .i (k + n) ∧ R1 (.i n)) := fun σ H1 dr s Q q =>
  PE.w (pe_op op_add (peS X a) (peS X b)) (ha H1 σ H1 (Exb.refl _) s _ fun v H2 e2 a2 => hb σ H2 (dr.ex e2) (s.mono e2) _ fun d u H3 e3 d3 r3 a3 => by
    obtain ⟨n, rfl, hn⟩ := r3
    have a2 : v = .int k := a2
    have a3 : u = .int n := a3
    subst a2 a3
    exact ⟨k, n, rfl, rfl, q (.i (k + n)) _ H3 ((Ex.to e2).trans e3) d3 ⟨n, rfl, hn⟩ rfl⟩)
/-- e == k, e > k -/
theorem tx_cmp {op : CmpOp} {g : Int → Int → Bool} (ho : OpR X (compareOp op) (rI0 fun i j => .bl (g i j))) (ha : PX X T B p a Γ (fun d => ∃ n, d = .i n ∧ R1 (.i n))) {k : Int} (hb : ∀ H, PD X T B b Γ H (.i k)) (hm : behindInMarks op b = false := by first | exact nomark _ | with_unfolding_all rfl) : TX X T B p (.Compare a [op] [b] pos) Γ := fun σ H1 dr s Q q =>
  PT.w (pt_cmpR ho (peS X a) (peS X b) hm) (ha σ H1 dr s _ fun d v H2 e2 d2 r2 a2 => hb H2 σ H2 (Exb.refl _) (s.mono e2) _ fun u H3 e3 a3 => by
    obtain ⟨n, rfl, hn⟩ := r2
    have a2 : v = .int n := a2
    have a3 : u = .int k := a3
    subst a2 a3
    exact ⟨n, k, rfl, rfl, _, rfl, q _ H3 (e2.trans (Ex.to e3)) (d2.ex e3)⟩)
theorem tx_eq (ha : PX X T B p a Γ (fun d => ∃ n, d = .i n ∧ R1 (.i n))) {k : Int} (hb : ∀ H, PD X T B b Γ H (.i k)) (hm : behindInMarks .Eq b = false := by first | exact nomark _ | with_unfolding_all rfl) : TX X T B p (.Compare a [.Eq] [b] pos) Γ := fun σ H1 dr s Q q =>
  PT.w (pt_cmpR op_eq (peS X a) (peS X b) hm) (ha σ H1 dr s _ fun d v H2 e2 d2 r2 a2 => hb H2 σ H2 (Exb.refl _) (s.mono e2) _ fun u H3 e3 a3 => by
    obtain ⟨n, rfl, hn⟩ := r2
    have a2 : v = .int n := a2
    have a3 : u = .int k := a3
    subst a2 a3
    exact ⟨rfl, _, rfl, q _ H3 (e2.trans (Ex.to e3)) (d2.ex e3)⟩)
/-- a promise that draws: the list of draws first -/
def spX (T : List (Addr × Str)) (B : Addr) (Pre : List D → Prop) (R : List D → D → Prop) : Sp := fun vs H Q _ => ∃ p ws ds, vs = .ref p :: ws ∧ DR H p ∧ AtL B H ds ws ∧ Tabs T H ∧ Pre ds ∧ ∀ d v H', Exb T (fun b => b = p) H H' → DR H' p → R ds d → At B H' d v → Q v H'
theorem px_call1 {i j k : Nat} {y : Str} {pn pp : Pos} {Pre : List D → Prop} {R : List D → D → Prop} (G : Has X.prog X.w X.K X.mg X.base j y (spX T B Pre R)) (hr : Room k X.A) (hi : X.N[i]? = some x) (hv : Vis X.env.scope x) (hΓ : Γ[i]? = some (some (.r p))) (ha : PX X T B p a Γ (fun d => R1 d)) (hP : ∀ d, R1 d → Pre [d]) (hjk : j ≤ k := by decide) (hg : Gl X y := by rfl) (hd : (y == ("__debug__" : Str)) = false := by decide) (hdx : (x == ("__debug__" : Str)) = false := by decide) (hcx : (x == ("__classdict__" : Str)) = false := by decide)
    (he : starEach [.Name x pn, a] X.env = (false, eval (.Name x pn) X.env) :: starEach [a] X.env := by rfl) (he2 : starEach [a] X.env = (false, eval a X.env) :: starEach [] X.env := by rfl) (hpl : (backTo pos (starEach [a] X.env)).any (·.1) = false := by rfl) :
    PX X T B p (.Call (.Name y pp) [.Name x pn, a] [] pos) Γ (fun d => ∃ d1, R1 d1 ∧ R [d1] d) := fun σ H1 dr s Q q => by
  obtain ⟨f, hm, hk, G⟩ := G
  refine PE.w (pe_callR G (hr.mono hjk) hk hg hm pass0 (pa_cons (pe_var hi hv hdx hcx) (pa_cons (peS X a) pa_nil he2) he) hd he hpl) ⟨_, dkv i s hΓ, ha σ H1 dr s _ fun d v H2 e2 d2 r2 a2 => ⟨p, [v], [d], rfl, d2, AtL.one a2, e2.tabs s.tabs, hP d r2, fun d' u H3 e3 d3 r3 a3 => q d' u H3 (e2.trans e3) d3 ⟨d, r2, r3⟩ a3⟩⟩
theorem px_call2 {i j k : Nat} {y : Str} {pn pp : Pos} {d0 : D} {Pre : List D → Prop} {R : List D → D → Prop} (G : Has X.prog X.w X.K X.mg X.base j y (spX T B Pre R)) (hr : Room k X.A) (hi : X.N[i]? = some x) (hv : Vis X.env.scope x) (hΓ : Γ[i]? = some (some (.r p))) (h0 : ∀ H, PD X T B c Γ H d0) (ha : PX X T B p a Γ (fun d => R1 d)) (hP : ∀ d, R1 d → Pre [d0, d]) (hjk : j ≤ k := by decide) (hg : Gl X y := by rfl) (hd : (y == ("__debug__" : Str)) = false := by decide) (hdx : (x == ("__debug__" : Str)) = false := by decide) (hcx : (x == ("__classdict__" : Str)) = false := by decide)
    (he : starEach [.Name x pn, c, a] X.env = (false, eval (.Name x pn) X.env) :: starEach [c, a] X.env := by rfl) (he1 : starEach [c, a] X.env = (false, eval c X.env) :: starEach [a] X.env := by rfl) (he2 : starEach [a] X.env = (false, eval a X.env) :: starEach [] X.env := by rfl) (hpl : (backTo pos (starEach [c, a] X.env)).any (·.1) = false := by rfl) :
    PX X T B p (.Call (.Name y pp) [.Name x pn, c, a] [] pos) Γ (fun d => ∃ d1, R1 d1 ∧ R [d0, d1] d) := fun σ H1 dr s Q q => by
  obtain ⟨f, hm, hk, G⟩ := G
  refine PE.w (pe_callR G (hr.mono hjk) hk hg hm pass0 (pa_cons (pe_var hi hv hdx hcx) (pa_cons (peS X c) (pa_cons (peS X a) pa_nil he2) he1) he) hd he hpl) ⟨_, dkv i s hΓ, h0 H1 σ H1 (Exb.refl _) s _ fun u0 H0 e0 a0 => ha σ H0 (dr.ex e0) (s.mono e0) _ fun d v H2 e2 d2 r2 a2 => ⟨p, [u0, v], [d0, d], rfl, d2, ⟨u0, [v], rfl, a0.mono e2, AtL.one a2⟩, e2.tabs (e0.tabs s.tabs), hP d r2, fun d' u H3 e3 d3 r3 a3 => q d' u H3 ((Ex.to e0).trans (e2.trans e3)) d3 ⟨d, r2, r3⟩ a3⟩⟩
/-- x = e -/
theorem sd_setX {i : Nat} (hN : X.N.Nodup) (hi : X.N[i]? = some x) (hx : Loc X.env.scope x) (dr : DR H p) (h : PX X T B p e Γ R) (k : ∀ d H1, Exb T (fun b => b = p) H H1 → DR H1 p → R d → SD X T B rest (Γ.set i (some d)) H1 F) (hs : swapsWith e (some (.Name x pos')) pos.line X.env = pure false := by rfl)
    (hf : X.fn x = true ∨ X.env.scope.names.lookup x = some .local := by first | exact .inl rfl | exact .inr rfl) : SD X T B (.Assign [.Name x pos'] e pos :: rest) Γ H F := fun σ H1 x s =>
  wS_cons (ps_set hN hi hx (peS X e) hs hf) (h σ H1 (dr.ex x) s _ fun d v H2 e2 d2 r2 a2 => k d H2 ((Ex.to x).trans e2) d2 r2 _ H2 (Exb.refl _) ((s.mono e2).set a2))
theorem sd_retX (dr : DR H p) (h : PX X T B p e Γ R) (q : ∀ d v H1, Exb T (fun b => b = p) H H1 → DR H1 p → R d → At B H1 d v → F.rt v H1) : SD X T B (.Return (some e) pos :: rest) Γ H F := fun σ H1 x s =>
  wS_cons (ps_ret (peS X e)) (h σ H1 (dr.ex x) s _ fun d v H2 e2 d2 r2 a2 => q d v H2 ((Ex.to x).trans e2) d2 r2 a2)
/-! a comprehension whose test draws -/
def PXL (X : Cx) (T : List (Addr × Str)) (B p : Addr) (e : Expr) (Γ : List (Option D)) (R : List D → Prop) : Prop := ∀ σ H1, DR H1 p → Sl T B H1 σ Γ → ∀ Q : VK, (∀ l vs ds H2, Exb T (fun b => b = p) H1 H2 → DR H2 p → H2 l = some (.lst vs) → R ds → AtL B H2 ds vs → Q (.ref l) H2) → wE X e σ H1 Q
theorem pxl_lc {α : Type} (xs : List α) (f g : α → D) (Γ' : α → List (Option D)) {tg iter elt : Expr} {scope : Scope} {own : List (Str × Nat)} {gt : TG} {is : List Nat} (hc : X.calm = true) (hN : X.N.Nodup) (hi : ∀ H, ID X T B (fun b => b = p) tg iter Γ H (xs.map f)) (ok : BlkOk X.N X.env.scope scope own)
    (hg : ∀ (s : Shared) (H : Hp) (C : Addr) (cl : List (Str × Addr)) (fp : List Addr), PG (X.blk s H scope (compEnvC scope cl C X.env) fp) tg gt) (hT : ∀ a ∈ xs, Gd T B gt is (f a) (wipeG Γ (own.map (·.2))) (Γ' a)) (his : ∀ i ∈ is, i ∈ own.map (·.2))
    (ht : ∀ a ∈ xs, ∀ s0 H0 C cl fp, TX (bk X scope s0 H0 C cl fp) T B p c (Γ' a)) (he : ∀ a ∈ xs, ∀ s0 H0 C cl fp H, PD (bk X scope s0 H0 C cl fp) T B elt (Γ' a) H (g a)) (hz : xs.length < sizeLine)
    (hs : ∀ x, foldedSetIterable iter X.env x = pure x := by intro _; rfl) : PXL X T B p (.ListComp elt [⟨tg, iter, [c], 0⟩] scope pos) Γ (fun ds => ∃ ys : List α, ys.Sublist xs ∧ ds = ys.map g) := fun σ H1 dr s Q q => by
  refine PE.w (pe_lc hc hN (piS X tg iter) ok hg (fun s0 H0 C cl fp => pts_one (ptB s0 H0 C cl fp)) peB hs) ?_
  refine hi H1 σ H1 (Exb.refl _) s _ fun J H2 e2 wk => fun Dl hD => ?_
  have hpD : ∀ {Ha : Hp}, DR Ha p → ∀ {acc : List V}, Exb T (fun b => b = p) H2 Ha → True := fun _ _ _ => True.intro
  have hne : p ≠ Dl := fun z => by
    obtain ⟨ns, h⟩ := dr.ex e2
    rw [z, hD] at h
    cases h
  refine ⟨fun i m H' => m = xs.length - i ∧ i ≤ xs.length ∧ Exb T (fun b => b = p) H2 H' ∧ DR H' p ∧ ∃ (acc : List V) (ys : List α), H' Dl = some (.lst acc) ∧ ys.Sublist (xs.take i) ∧ AtL B H' (ys.map g) acc, ⟨_, rfl, Nat.zero_le _, Ex.to (Ex.new hD), by
    obtain ⟨ns, h⟩ := dr.ex e2
    exact ⟨ns, by rw [upd_ne hne]; exact h⟩, [], [], upd_same, List.nil_sublist _, rfl⟩, ?_⟩
  rintro i m H' ⟨rfl, hle, eH, drH, acc, ys, hacc, hsub, hat⟩
  obtain ⟨w1, w2, w3⟩ := wk H' eH
  rw [List.length_map] at w1 w2
  by_cases hlt : i < xs.length
  · have hmem : xs[i] ∈ xs := List.getElem_mem hlt
    refine .inr ⟨w1 i hlt, fun H'' => i + 1 ≤ xs.length ∧ Exb T (fun b => b = p) H2 H'' ∧ DR H'' p ∧ ∃ (acc : List V) (ys : List α), H'' Dl = some (.lst acc) ∧ ys.Sublist (xs.take (i + 1)) ∧ AtL B H'' (ys.map g) acc, fun H'' z => ⟨_, by omega, rfl, z⟩, fun x' H'' hy => ?_⟩
    obtain ⟨e3, at3⟩ := w3 i (f xs[i]) x' H'' (by rw [List.getElem?_map, List.getElem?_eq_getElem hlt]; rfl) hy
    have s3 : Sl T B H'' (wipe σ (own.map (·.2))) (wipeG Γ (own.map (·.2))) := (((s.mono e2).mono eH).mono e3).wipe _
    refine hT xs[i] hmem _ H'' x' s3 at3 _ fun σ' s4 hw => ⟨?_, ?_⟩
    · rw [hw _ his]
      exact wipe_wipe σ _ _ fun i hi => hi
    · intro s0 H0 C cl fp
      refine ht xs[i] hmem s0 H0 C cl fp σ' H'' (drH.ex e3) s4 _ fun k H4 e4 d4 => ?_
      have tf : xs.take (i + 1) = xs.take i ++ [xs[i]] := by rw [List.take_add_one, List.getElem?_eq_getElem hlt]; rfl
      have nDp : ¬ Dl = p := fun z => hne z.symm
      have hacc4 : H4 Dl = some (.lst acc) := e4.keep Dl _ (Ex.lst e3 hacc) nDp (fun ps z => by cases z)
      have hat4 := (hat.mono e3).mono e4
      cases k with
      | true =>
        rw [if_pos rfl]
        intro s0 H0 C cl fp
        refine he xs[i] hmem s0 H0 C cl fp H4 σ' H4 (Exb.refl _) (s4.mono e4) _ fun v H5 e5 at5 => ?_
        have hacc5 : H5 Dl = some (.lst acc) := Ex.lst e5 hacc4
        have em : Exb T (fun b => b = Dl) H5 (upd H5 Dl (.lst (acc ++ [v]))) := (Exb.refl H5).mut rfl hacc5 rfl (fun ps z => by cases z)
        have e25 : Exb T (fun b => b = p) H2 H5 := ((eH.trans (Ex.to e3)).trans e4).trans (Ex.to e5)
        have d5 := d4.ex e5
        refine ⟨acc, hacc5, ?_, hlt, ?_, ?_, acc ++ [v], ys ++ [xs[i]], upd_same, ?_, ?_⟩
        · have l1 := hat.len
          rw [List.length_map] at l1
          have l2 := hsub.length_le
          rw [List.length_take] at l2
          omega
        · refine ⟨fun b o hb hnb ht => ?_, fun b o hb hf => ?_, fun b hb => ?_, fun t => em.tabs (e25.tabs t)⟩
          · rw [upd_ne (fun z => by rw [z, hD] at hb; cases hb)]
            exact e25.keep b o hb hnb ht
          · rw [upd_ne (fun z => by rw [z, hD] at hb; cases hb)]
            exact e25.fix b o hb hf
          · exact e25.non b (em.non b hb)
        · obtain ⟨ns, h⟩ := d5
          exact ⟨ns, by rw [upd_ne hne]; exact h⟩
        · rw [tf]
          exact hsub.append (List.Sublist.refl _)
        · rw [List.map_append]
          exact ((hat4.mono e5).mono em).app (AtL.one (at5.mono em))
      | false =>
        rw [if_neg Bool.false_ne_true]
        refine ⟨hlt, (eH.trans (Ex.to e3)).trans e4, d4, acc, ys, hacc4, ?_, hat4⟩
        rw [tf]
        exact hsub.trans (List.sublist_append_left _ _)
  · have e1 : i = xs.length := by omega
    subst e1
    rw [List.take_length] at hsub
    exact .inl ⟨w2 _ (Nat.le_refl _), q Dl acc (ys.map g) H' ((Ex.to e2).trans eH) drH hacc ⟨ys, hsub, rfl⟩ hat⟩
/-- tuple(e) -/
theorem px_tupleL {pp : Pos} {R : List D → Prop} (hm : X.mg "tuple" = none) (h : PXL X T B p e Γ R) (hg : Gl X "tuple" := by rfl) (he : starEach [e] X.env = (false, eval e X.env) :: starEach [] X.env := by rfl) (hpl : (backTo pos (starEach [] X.env)).any (·.1) = false := by rfl) :
    PX X T B p (.Call (.Name "tuple" pp) [e] [] pos) Γ (fun d => ∃ ds, R ds ∧ d = .t ds) := fun σ H1 dr s Q q =>
  PE.w (pe_callTy call_tuple_of hg hm (by decide +kernel) (pa_cons (peS X e) pa_nil he) (by decide) (by decide) he hpl) (h σ H1 dr s _ fun l vs ds H2 e2 d2 hl r2 a2 => ⟨l, vs, rfl, .inl ⟨SqL.of hl, fun t ht => q (.t ds) _ _ (e2.trans (Ex.to (Ex.new ht))) (d2.ex (Ex.new (T := T) ht)) ⟨ds, r2, rfl⟩ ⟨t, vs, rfl, upd_same, a2.mono (Ex.new (T := T) ht)⟩⟩⟩)
end
end G30
set_option Elab.async false
set_option linter.all false
set_option maxRecDepth 100000
set_option maxHeartbeats 4000000
set_option autoImplicit false
namespace G30
open PySem PySem.Spec PyProof.Rows L2 LamX StX SlX
section
variable {X : Cx} {T : List (Addr × Str)} {B p : Addr} {Γ Γ' : List (Option D)} {H H' : Hp} {d d0 : D} {ds : List D} {e a b c : Expr} {es : List Expr} {F : Ends} {rest body : List Stmt} {pos pos' : Pos} {x : Str} {R R1 R2 : D → Prop}
theorem px_tup2 {k2 : Nat} (h0 : ∀ H, PD X T B a Γ H d0) (h : PX X T B p b Γ R) (he : starEach [a, b] X.env = (false, eval a X.env) :: starEach [b] X.env := by rfl) (he2 : starEach [b] X.env = (false, eval b X.env) :: starEach [] X.env := by rfl) : PX X T B p (.Tuple [a, b] k2 pos) Γ (fun d => ∃ d1, R d1 ∧ d = .t [d0, d1]) := fun σ H1 dr s Q q =>
  PE.w (pe_tup (pa_cons (peS X a) (pa_cons (peS X b) pa_nil he2) he)) (h0 H1 σ H1 (Exb.refl _) s _ fun v H2 e2 a2 => h σ H2 (dr.ex e2) (s.mono e2) _ fun d1 u H3 e3 d3 r3 a3 => ⟨by show 2 ≤ 2 ^ 24; decide, fun l hl =>
    q (.t [d0, d1]) _ _ (((Ex.to e2).trans e3).trans (Ex.to (Ex.new hl))) (d3.ex (Ex.new (T := T) hl)) ⟨d1, r3, rfl⟩ ⟨l, [v, u], rfl, upd_same, v, [u], rfl, (a2.mono e3).mono (Ex.new (T := T) hl), u, [], rfl, a3.mono (Ex.new (T := T) hl), rfl⟩⟩)
/-- xs.append(e), e draws -/
theorem sd_appendX (i : Nat) {apos p2 : Pos} {q : Addr} {vs : List V} (dr : DR H p) (hqp : q ≠ p) (hq : H q = some (.lst vs)) (hz : vs.length < sizeLine) (h : PX X T B p e Γ R)
    (k : ∀ d v H1, Exb T (fun b => b = p ∨ b = q) H H1 → DR H1 p → R d → At B H1 d v → H1 q = some (.lst (vs ++ [v])) → SD X T B rest Γ H1 F) (hN : X.N[i]? = some x := by rfl) (hΓ : Γ[i]? = some (some (.r q)) := by rfl) (hv : Vis X.env.scope x := by first | exact .inl rfl | exact .inr (.inl rfl) | exact .inr (.inr rfl)) (hdb : (x == ("__debug__" : Str)) = false := by decide) (hcd : (x == ("__classdict__" : Str)) = false := by decide)
    (hs : swapsWith (.Call (.Attribute (.Name x p2) "append" apos) [e] [] pos') none pos.line X.env = pure false := by rfl)
    (hbase : attributeBase (.Name x p2) "append" X.env (eval (.Name x p2) X.env) = eval (.Name x p2) X.env := by rfl) (hline : (apos.endLine == pos'.line) = true := by rfl) (he : starEach [e] X.env = (false, eval e X.env) :: starEach [] X.env := by rfl) (hpl : (backTo pos' (starEach [] X.env)).any (·.1) = false := by rfl)
    (hfew : ((backTo pos' (starEach [e] X.env)).all (fun x => !x.1) && (backToKw pos' (keywordEach [] X.env)).all (fun x => x.1.isSome)
      && decide (([e] : List Expr).length + ([] : List Keyword).length + (if ([] : List Keyword).isEmpty then 0 else 1) < 30)) = true := by rfl) :
    SD X T B (.Expr (.Call (.Attribute (.Name x p2) "append" apos) [e] [] pos') pos :: rest) Γ H F := fun σ H1 x1 s =>
  wS_cons (ps_expr (pe_bm PySem.F.plainAttrs_list PySem.F.slot_list_append PySem.F.type_list_append mt_append (pe_var hN hv hdb hcd) (pa_cons (peS X e) pa_nil he) hbase hfew hline he hpl) hs) ⟨_, dkv i s hΓ, .inl ⟨rfl, vs, SqL.of (Ex.lst x1 hq)⟩, h σ H1 (dr.ex x1) s _ fun d v H2 e2 d2 r2 a2 => by
    have hq2 : H2 q = some (.lst vs) := e2.keep q _ (Ex.lst x1 hq) hqp (fun ps z => by cases z)
    have em : Exb T (fun b => b = p ∨ b = q) H2 (upd H2 q (.lst (vs ++ [v]))) := (Exb.refl H2).mut (.inr rfl) hq2 rfl (fun ps z => by cases z)
    have e12 : Exb T (fun b => b = p ∨ b = q) H H2 := (Ex.to x1).trans (e2.mono fun b hb => .inl hb)
    refine ⟨q, vs, v, rfl, rfl, hq2, hz, k d v _ (e12.trans em) ?_ r2 (a2.mono em) upd_same σ _ (Exb.refl _) ((s.mono e2).mono em)⟩
    obtain ⟨ns, hn⟩ := d2
    exact ⟨ns, by rw [upd_ne (Ne.symm hqp)]; exact hn⟩⟩
/-- for i in range(e), e draws -/
theorem sd_forX {S : Addr → Prop} {tg : Expr} {gt : TG} {is : List Nat} {pr pp : Pos} (Pn : Nat → Prop) (M : Nat → Hp → Prop) (Γs : List (Option D)) (Γ' : Nat → List (Option D)) (hS : S p) (hp : PassesOwn (model X.prog X.w) X.A X.env X.xe) (hc : X.calm = true) (hm : X.mg "range" = none) (dr : DR H p) (h : PX X T B p e Γ (fun d => ∃ n : Nat, d = .i n ∧ n ≤ 1000 ∧ Pn n)) (hg : PG X tg gt)
    (hT : ∀ k : Nat, Gd T B gt is (.i (0 + (k : Int))) Γs (Γ' k)) (h0 : ∀ H1, Exb T (fun b => b = p) H H1 → DR H1 p → M 0 H1) (hΓ0 : Γs.length = Γ.length ∧ ∀ (i : Nat) (d : D), Γs[i]? = some (some d) → Γ[i]? = some (some d))
    (hM : ∀ k H1 H2, M k H1 → Ex T H1 H2 → M k H2)
    (turn : ∀ H2 n k H', Pn n → k < n → Exb T S H2 H' → M k H' → SD X T B body (Γ' k) H' { F with nx := fun σ' H'' => Exb T S H2 H'' ∧ Sl T B H'' σ' Γs ∧ M (k + 1) H'', ct := fun σ' H'' => Exb T S H2 H'' ∧ Sl T B H'' σ' Γs ∧ M (k + 1) H'', bk := fun σ' H' => wS X rest F σ' H' })
    (done : ∀ n H', Pn n → Exb T S H H' → M n H' → SD X T B rest Γs H' F) (hgr : Gl X "range" := by rfl) (hse : starEach [e] X.env = [(false, eval e X.env)] := by rfl) (hs : ∀ x, foldedSetIterable (.Call (.Name "range" pr) [e] [] pp) X.env x = pure x := by intro _; rfl) : SD X T B (.For tg (.Call (.Name "range" pr) [e] [] pp) body [] pos :: rest) Γ H F := fun σ H1 x1 s => by
  refine wS_cons (ps_for hp hc (pi_range1 hgr hm (pa_cons (peS X e) pa_nil hse) hse) hg (psS X body) hs) ?_
  refine h σ H1 (dr.ex x1) s _ fun d v H2 e2 d2 ⟨n, ed, hn, pn⟩ a2 => ?_
  subst ed
  have a2 : v = .int n := a2
  subst a2
  refine ⟨n, rfl, by omega, by omega, ?_⟩
  rw [Int.toNat_natCast]
  refine ⟨fun i m σ' H' => m = n - i ∧ i ≤ n ∧ Exb T S H2 H' ∧ Sl T B H' σ' Γs ∧ M i H', ⟨_, rfl, Nat.zero_le _, Exb.refl _, (s.mono e2).weak hΓ0.1 hΓ0.2, h0 H2 ((Ex.to x1).trans e2) d2⟩, ?_⟩
  rintro i m σ' H' ⟨rfl, hle, eH, sH, mH⟩
  have e02 : Exb T S H H2 := (Ex.to x1).trans (e2.mono fun b hb => by rw [hb]; exact hS)
  by_cases hlt : i < n
  · refine .inr ⟨hlt, fun σ'' H'' => Exb T S H2 H'' ∧ Sl T B H'' σ'' Γs ∧ M (i + 1) H'', fun σ'' H'' z => ⟨_, by omega, rfl, hlt, z⟩, fun x' H'' hy => ?_⟩
    obtain ⟨rfl, rfl⟩ := hy
    refine hT i σ' H'' _ sH rfl _ fun σ3 s3 _ => ?_
    exact turn H2 n i H'' pn hlt eH mH σ3 H'' (Exb.refl _) s3
  · have e1 : i = n := by omega
    subst e1
    exact .inl ⟨Nat.le_refl _, done i H' pn (e02.trans eH) mH σ' H' (Exb.refl _) sH⟩
end
section
variable {P : Program} {w : World} {K : PySem.W.Frag} {mg : Str → Option Value} {base : Heap} {T : List (Addr × Str)}
theorem has_X {x : Str} {N ps : List Str} {k : Nat} {B : Addr} {d : He.DefD} {Pre : List D → Prop} {R : List D → D → Prop} (D0 : DefOk K mg x d) (g : mg x = some (.ref (He.fAd K d.at_))) (S : FnScope N ps d.scope) (hlen : ∀ ds, Pre ds → ds.length + 1 = ps.length)
    (hb : ∀ (kV doc pm : Value) (an : Option Addr) (cdv ct : Value) (us : List Value), us.length = ps.length → bindArgs (PySem.W.fnOf d.name d.qual d.params d.body d.scope .none kV doc pm an cdv ct) ⟨us, []⟩ = pure (ps.zip us))
    (body : ∀ f cd A outer s H E, Room k (bx P w K mg base N d f cd A outer s H E).A → ∀ p ds, DR H p → Pre ds → ∀ Q : VK, (∀ d v H', Exb T (fun b => b = p) H H' → DR H' p → R ds d → At B H' d v → Q v H') → SD (bx P w K mg base N d f cd A outer s H E) T B d.body (startG N (.r p :: ds)) H { nx := fun _ H' => Q .non H', rt := Q }) :
    Has P w K mg base (k + 1) x (spX T B Pre R) := by
  obtain ⟨h1, h2⟩ := fnr_of (N := N) (ps := ps) (k := k) (P := P) (w := w) (base := base) (sp := spX T B Pre R) D0 S (fun vs H Q E ⟨p, ws, ds, e, _, a, t, hR, _⟩ => by rw [e, List.length_cons, a.len]; exact hlen ds hR) hb
    fun f cd A outer s H E hr vs Q ⟨p, ws, ds, e, dr, a, t, hR, q⟩ => by
      subst e
      exact body f cd A outer s H E hr p ds dr hR Q q _ H (Exb.refl _) (sl_start (ds := .r p :: ds) t ⟨_, ws, rfl, rfl, a⟩)
  exact ⟨_, g, h2, h1⟩
def P_take (ds : List D) : Prop := ∃ n : Int, ds = [.i n] ∧ 0 < n
def R_take (ds : List D) (d : D) : Prop := ∀ n : Int, ds = [.i n] → ∃ r : Int, d = .i r ∧ 0 ≤ r ∧ r < n
theorem has_take (Z : Zk K mg) : Has P w K mg base 1 "_law_take" (spX T (He.ga K "Book") P_take R_take) := by
  have hN : (["_law_draws", "_law_many"] : List Str).Nodup := by decide +kernel
  refine has_X (N := ["_law_draws", "_law_many"]) (ps := ["_law_draws", "_law_many"]) (d := dF 78 "_law_take" "_law_take") (Z.d 58 rfl rfl rfl) (Z.glo 49 rfl) ⟨rfl, rfl, rfl, hN, rfl, by decide +kernel, by decide +kernel⟩ (fun ds ⟨_, h, _⟩ => by rw [h]; rfl) (fun _ _ _ _ _ _ us hl => match us, hl with | [_, _], _ => rfl) (fun f cd A outer s0 H E hr0 p ds dr hP Q q => ?_)
  obtain ⟨n, rfl, hn⟩ := hP
  obtain ⟨ns, hp⟩ := dr
  cases ns with
  | nil =>
    refine sd_ret (d := .i 0) (pd_if (k := false) (td_ne0 (n := 0) hr0 (prv 0 (ds := []) (SqL.of hp) rfl) (by unfold okL; rfl)) (fun z => by cases z) fun _ => pd_int) fun v H2 e2 a2 => q _ v H2 (Ex.to e2) ⟨[], Ex.lst e2 hp⟩ (fun n' hn' => ?_) a2
    injection hn' with h1 _
    injection h1 with h1
    exact ⟨0, rfl, Int.le_refl _, by omega⟩
  | cons a r =>
    intro σ H1 x1 s
    refine wS_cons (ps_ret (pe_ifExp (ptS _ _) (peS _ _) (peS _ _))) ?_
    refine (td_ne0 (n := 0) hr0 (prv 0 (ds := (a :: r).map D.i) (SqL.of hp) (AtL.of_ints _)) (okL_ints _) : TD _ T (He.ga K "Book") _ _ H true) σ H1 x1 s _ fun H2 e2 => ?_
    rw [if_pos (show (!(List.map D.i (a :: r)).isEmpty) = true from rfl)]
    have hp2 : H2 p = some (.lst ((a :: r).map V.int)) := Ex.lst (x1.trans e2) hp
    refine PE.w (X := bx P w K mg base ["_law_draws", "_law_many"] (dF 78 "_law_take" "_law_take") f cd A outer s0 H E) (pe_op op_mod (pe_callTy (x := "int") call_int1 rfl Z.int_ boot_int (pa_cons (pe_bm PySem.F.plainAttrs_list PySem.F.slot_list_pop PySem.F.type_list_pop mt_popAt (pe_var (i := 0) rfl (.inl rfl)) (pa_cons pe_int pa_nil)) pa_nil)) (pe_var (i := 1) rfl (.inl rfl))) ?_
    refine ⟨_, dkv 0 (s.mono e2) rfl, .inl ⟨rfl, _, SqL.of hp2⟩, p, (a :: r).map V.int, 0, 0, .int a, rfl, rfl, hp2, by decide, by decide, ?_, rfl, ?_⟩
    · exact seqIndex_of (by decide) (by simp)
    have em : Exb T (fun b => b = p) H2 (upd H2 p (.lst (((a :: r).map V.int).eraseIdx 0))) := (Exb.refl H2).mut rfl hp2 rfl (fun ps z => by cases z)
    obtain ⟨v1, h1, h2⟩ := (s.mono e2).at_ 1 (.i n) rfl
    have h2 : v1 = .int n := h2
    subst h2
    refine .inl ⟨a, rfl, _, h1, a, n, rfl, rfl, hn, ?_⟩
    refine q (.i (a % n)) _ _ ((Ex.to (x1.trans e2)).trans em) ⟨r, upd_same⟩ (fun n' hn' => ?_) rfl
    injection hn' with h1 _
    injection h1 with h1
    subst h1
    exact ⟨a % n, rfl, Int.emod_nonneg _ (by omega), Int.emod_lt_of_pos _ hn⟩
def P_set (ds : List D) : Prop := ∃ (m : Nat) (o : Int), m ≤ 5 ∧ 0 < o ∧ ds = [.i m, .i o]
def R_set (ds : List D) (d : D) : Prop := ∀ (m : Nat) (o : Int), ds = [.i m, .i o] → ∃ s, d = sD s ∧ OkS m s
theorem OkS.sub {m : Nat} {s t : List Int} (h : OkS m s) (hs : t.Sublist s) : OkS m t := ⟨h.asc.sublist hs, fun x hx => h.lo x (hs.subset hx), fun x hx => h.hi x (hs.subset hx)⟩
theorem has_set (Z : Zk K mg) : Has P w K mg base 2 "_law_set" (spX T (He.ga K "Book") P_set R_set) := by
  have hN : (["_law_draws", "_law_marks", "_law_often", "_law_mark"] : List Str).Nodup := by decide +kernel
  refine has_X (N := ["_law_draws", "_law_marks", "_law_often", "_law_mark"]) (ps := ["_law_draws", "_law_marks", "_law_often"]) (d := dF 82 "_law_set" "_law_set") (Z.d 62 rfl rfl rfl) (Z.glo 53 rfl) ⟨rfl, rfl, rfl, hN, rfl, by decide +kernel, by decide +kernel⟩ (fun ds ⟨_, _, _, _, h⟩ => by rw [h]; rfl) (fun _ _ _ _ _ _ us hl => match us, hl with | [_, _, _], _ => rfl) (fun f cd A outer s0 H E hr0 p ds dr hP Q q => ?_)
  obtain ⟨m, o, h5, ho, rfl⟩ := hP
  refine sd_retX dr (px_tupleL Z.tuple_ (pxl_lc (own := [("_law_mark", 3)]) (is := [3]) (mks m) D.i D.i (fun k => [some (.r p), some (.i m), some (.i o), some (.i k)]) rfl hN (fun H => ID.is (id_range1 Z.range (pdv 1) ⟨by omega, by omega⟩) (rg_mks m)) (blk_ok (by kernel_rfl)) (fun _ _ _ _ _ => pg_name (i := 3) hN rfl (.inl rfl)) (fun a ha => gd_name) (by decide)
    (fun a ha s0 H0 C cl fp => tx_eq (R1 := fun _ => True) (PX.imp (px_call1 (i := 0) (R1 := fun d => d = .i o) (has_take Z) hr0 rfl (by first | exact .inl rfl | exact .inr (.inl rfl) | exact .inr (.inr rfl)) rfl (px_pd fun H => pdv 2) (fun d hd => ⟨o, by rw [hd], ho⟩)) (fun d ⟨d1, h1, h2⟩ => by
      subst h1
      obtain ⟨r, e, _⟩ := h2 o rfl
      exact ⟨r, e, True.intro⟩)) (fun H => pd_int)) (fun a ha s0 H0 C cl fp H => pdv 3) (by rw [mks_len]; show m < 2 ^ 24; omega))) ?_
  rintro d v H1 e1 d1 ⟨ds, ⟨ys, hs, rfl⟩, rfl⟩ a1
  refine q _ v H1 e1 d1 (fun m' o' he => ?_) a1
  injection he with h1 _
  injection h1 with h1
  have h1 : m = m' := by omega
  subst h1
  exact ⟨ys, rfl, (mks_ok m).sub hs⟩
end
end G30
set_option Elab.async false
set_option linter.all false
set_option maxRecDepth 100000
set_option maxHeartbeats 4000000
set_option autoImplicit false
namespace G30
open PySem PySem.Spec PyProof.Rows L2 LamX StX SlX
section
variable {P : Program} {w : World} {K : PySem.W.Frag} {mg : Str → Option Value} {base : Heap} {T : List (Addr × Str)}
/-- 2 + a draw -/
theorem take_of {d : D} {n : Int} (h : R_take [.i n] d) : ∃ r, d = .i r ∧ 0 ≤ r ∧ r < n := h n rfl
def P_rules (ds : List D) : Prop := ∃ m : Nat, m ≤ 5 ∧ ds = [.i m, .i 6]
def OkRs (m : Nat) (rs : Rules) : Prop := ∀ r ∈ rs, OkS m r.1 ∧ OkS m r.2
def R_rules (ds : List D) (d : D) : Prop := ∀ m : Nat, (∃ k, ds = [.i m, .i k]) → ∃ rs : Rules, d = rsD rs ∧ rs.length ≤ 16 ∧ OkRs m rs
theorem has_rules (Z : Zk K mg) : Has P w K mg base 3 "_law_rules" (spX T (He.ga K "Book") P_rules R_rules) := by
  have hN : (["_law_draws", "_law_marks", "_law_most", "_law_found", "_law_turn", "_law_premise"] : List Str).Nodup := by decide +kernel
  refine has_X (N := ["_law_draws", "_law_marks", "_law_most", "_law_found", "_law_turn", "_law_premise"]) (ps := ["_law_draws", "_law_marks", "_law_most"]) (d := dF 83 "_law_rules" "_law_rules") (Z.d 63 rfl rfl rfl) (Z.glo 54 rfl) ⟨rfl, rfl, rfl, hN, rfl, by decide +kernel, by decide +kernel⟩ (fun ds ⟨_, _, h⟩ => by rw [h]; rfl) (fun _ _ _ _ _ _ us hl => match us, hl with | [_, _, _], _ => rfl) (fun f cd A outer s0 H E hr0 p ds dr hP Q q => ?_)
  obtain ⟨m, h5, rfl⟩ := hP
  refine sd_setL (i := 3) hN rfl (.inl rfl) (pl_lst ad_nil (Nat.zero_le _)) ?_
  intro l vs H1 hn1 e1 hl hv
  have hv : vs = [] := hv
  subst hv
  have dr1 := dr.ex e1
  have hlp : l ≠ p := fun z => by
    obtain ⟨ns, h⟩ := dr
    rw [← z] at h
    obtain ⟨ps, y⟩ := hn1 _ h
    cases y
  have Mx : ∀ k H1 H2, (DR H1 p ∧ ∃ vs rs, H1 l = some (.lst vs) ∧ AtL (He.ga K "Book") H1 (List.map ruD rs) vs ∧ rs.length ≤ k ∧ OkRs m rs) → Ex T H1 H2 → (DR H2 p ∧ ∃ vs rs, H2 l = some (.lst vs) ∧ AtL (He.ga K "Book") H2 (List.map ruD rs) vs ∧ rs.length ≤ k ∧ OkRs m rs) := fun k Ha Hb ⟨a, vs, rs, b, c, d, e⟩ x => ⟨a.ex x, vs, rs, Ex.lst x b, c.mono x, d, e⟩
  refine sd_forX (S := fun b => b = p ∨ b = l) (is := [4]) (fun n => n ≤ 6) (fun k H' => DR H' p ∧ ∃ vs rs, H' l = some (.lst vs) ∧ AtL (He.ga K "Book") H' (List.map ruD rs) vs ∧ rs.length ≤ k ∧ OkRs m rs) [some (.r p), some (.i m), some (.i 6), some (.r l), none, none] (fun k => [some (.r p), some (.i m), some (.i 6), some (.r l), some (.i (0 + (k : Int))), none])
    (.inl rfl) PassesOwn.never rfl Z.range dr1 (PX.imp (px_call1 (i := 0) (R1 := fun d => d = .i 7) (has_take Z) hr0 rfl (.inl rfl) rfl (px_pd fun H => PD.is (pd_add (pdv 2) pd_int) rfl) (fun d hd => ⟨7, by rw [hd], by decide⟩)) ?_) (pg_name (i := 4) hN rfl (.inl rfl)) (fun k => gd_name) (fun H2 e2 d2 => ⟨d2, [], [], e2.keep l _ hl hlp (fun ps z => by cases z), rfl, Nat.le_refl _, fun r hr => by cases hr⟩) (gle (by repeat' first | exact True.intro | exact rfl | refine And.intro ?_ ?_)) Mx ?_ ?_
  · rintro d ⟨d1, h1, h2⟩
    subst h1
    obtain ⟨r, rfl, r0, r1⟩ := take_of h2
    exact ⟨r.toNat, by rw [Int.toNat_of_nonneg r0], by omega, by omega⟩
  · rintro H2 n k H' hn6 hkn eb ⟨dH, vs, rs, hL, hA, hk, hok⟩
    have px : ∀ {Γ : List (Option D)} {pos pn pp pn2 pp2 pc pb : Pos} {j2 j3 : Nat} {Ec : Cx}, True := fun {_ _ _ _ _ _ _ _ _ _ _} => True.intro
    refine sd_setX (i := 5) (R := fun d => ∃ s, d = sD s ∧ OkS m s) hN rfl (.inl rfl) dH (PX.imp (px_call2 (i := 0) (R1 := fun d => ∃ n : Int, d = .i n ∧ 0 < n) (has_set Z) hr0 rfl (.inl rfl) rfl (fun H => pdv 1) (PX.imp (px_addL (R1 := fun d => ∃ r : Int, d = .i r ∧ 0 ≤ r) (fun H => pd_int) (PX.imp (px_call1 (i := 0) (R1 := fun d => d = .i 3) (has_take Z) hr0 rfl (.inl rfl) rfl (px_pd fun H => pd_int) (fun d hd => ⟨3, by rw [hd], by decide⟩)) ?_)) ?_) ?_) ?_) ?_
    · rintro d ⟨d1, h1, h2⟩
      subst h1
      obtain ⟨r, rfl, r0, _⟩ := take_of h2
      exact ⟨r, rfl, r, rfl, r0⟩
    · rintro d ⟨n, rfl, r, hr, r0⟩
      injection hr with hr
      exact ⟨2 + n, rfl, by omega⟩
    · rintro d ⟨n, rfl, h⟩
      exact ⟨m, n, h5, h, rfl⟩
    · rintro d ⟨d1, ⟨n, rfl, _⟩, h⟩
      exact h m n rfl
    rintro d H3 e3 d3 ⟨s, rfl, os⟩
    have hL3 : H3 l = some (.lst vs) := e3.keep l _ hL hlp (fun ps z => by cases z)
    refine sd_appendX (p := p) 3 (R := fun d => ∃ t, d = .t [sD s, sD t] ∧ OkS m t) d3 hlp hL3 ?_ (PX.imp (px_tup2 (R := fun d => ∃ t, d = sD t ∧ OkS m t) (fun H => pdv 5) (PX.imp (px_call2 (i := 0) (R1 := fun d => ∃ n : Int, d = .i n ∧ 0 < n) (has_set Z) hr0 rfl (.inl rfl) rfl (fun H => pdv 1) (PX.imp (px_addL (R1 := fun d => ∃ r : Int, d = .i r ∧ 0 ≤ r) (fun H => pd_int) (PX.imp (px_call1 (i := 0) (R1 := fun d => d = .i 3) (has_take Z) hr0 rfl (.inl rfl) rfl (px_pd fun H => pd_int) (fun d hd => ⟨3, by rw [hd], by decide⟩)) ?_)) ?_) ?_) ?_)) ?_) ?_
    · have := hA.len
      rw [List.length_map] at this
      show vs.length < 2 ^ 24
      omega
    · rintro d ⟨d1, h1, h2⟩
      subst h1
      obtain ⟨r, rfl, r0, _⟩ := take_of h2
      exact ⟨r, rfl, r, rfl, r0⟩
    · rintro d ⟨n, rfl, r, hr, r0⟩
      injection hr with hr
      exact ⟨2 + n, rfl, by omega⟩
    · rintro d ⟨n, rfl, h⟩
      exact ⟨m, n, h5, h, rfl⟩
    · rintro d ⟨d1, ⟨n, rfl, _⟩, h⟩
      exact h m n rfl
    · rintro d ⟨d1, ⟨t, rfl, ot⟩, rfl⟩
      exact ⟨t, rfl, ot⟩
    rintro d v H4 e4 d4 ⟨t, rfl, ot⟩ a4 h4
    refine sd_nil fun σ H5 e5 s5 => ⟨(eb.trans ((e3.mono fun b hb => .inl hb).trans e4)).trans (Ex.to e5), s5.gle (gle (by repeat' first | exact True.intro | exact rfl | refine And.intro ?_ ?_)), d4.ex e5, _, rs ++ [(s, t)], Ex.lst e5 h4, ?_, ?_, fun r hr => ?_⟩
    · rw [List.map_append]
      exact (((hA.mono e3).mono e4).mono e5).app (AtL.one (a4.mono e5))
    · rw [List.length_append, List.length_singleton]; omega
    · rcases List.mem_append.mp hr with z | z
      · exact hok r z
      · rw [List.mem_singleton.mp z]; exact ⟨os, ot⟩
  · rintro n H' hn6 eb ⟨dH, vs, rs, hL, hA, hk, hok⟩
    refine sd_ret (pd_tupleL Z.tuple_ (prv 3 (SqL.of hL) hA)) fun v H2 e2 a2 => ?_
    have eH : Exb T (fun b => b = p) H H2 := by
      have z : Exb T (fun b => b = p ∨ b = l) H H2 := (Ex.to e1).trans (eb.trans (Ex.to e2))
      refine ⟨fun b o hb hnb ht => ?_, z.fix, z.non, z.tabs⟩
      by_cases hbl : b = l
      · rw [hbl] at hb
        obtain ⟨ps, y⟩ := hn1 _ hb
        exact absurd y (ht ps)
      · exact z.keep b o hb (fun h => h.elim hnb hbl) ht
    refine q _ v H2 eH (dH.ex e2) (fun m' ⟨k', he⟩ => ?_) a2
    injection he with h1 _
    injection h1 with h1
    have h1 : m = m' := by omega
    subst h1
    exact ⟨rs, rfl, by omega, hok⟩
end
end G30
set_option Elab.async false
set_option linter.all false
set_option maxRecDepth 100000
set_option maxHeartbeats 4000000
set_option autoImplicit false
namespace G30
open PySem PySem.Spec PyProof.Rows L2 LamX StX SlX
section
variable {P : Program} {w : World} {K : PySem.W.Frag} {mg : Str → Option Value} {base : Heap} {T : List (Addr × Str)}
theorem cut16 (ds : List D) : cutD ds none (some 16) = ds.take 16 := by
  unfold cutD
  rw [HT.sIx_none, List.drop_zero, Nat.sub_zero]
  have e : HT.sIx ds.length ds.length (some 16) = min 16 ds.length := HT.sIx_nat _ _ 16
  rw [e]
  by_cases h : 16 ≤ ds.length
  · rw [Nat.min_eq_left h]
  · rw [Nat.min_eq_right (by omega), List.take_length, List.take_of_length_le (by omega)]
def P_rules_of (ds : List D) : Prop := ∃ m : Nat, 0 < m ∧ m ≤ 5 ∧ ds = [.i m]
def R_rules_of (ds : List D) (d : D) : Prop := ∀ m : Nat, ds = [.i m] → 0 < m → m ≤ 5 → ∃ rs : Rules, d = rsD rs ∧ OkR m rs
theorem one_ok {m : Nat} {k : Int} (h0 : 0 ≤ k) (h1 : k < m) : OkS m [k] := ⟨List.pairwise_singleton _ _, fun x hx => by rw [List.mem_singleton.mp hx]; exact h0, fun x hx => by rw [List.mem_singleton.mp hx]; exact h1⟩
theorem two_ok {m : Nat} {j k : Int} (h : j < k) (h0 : 0 ≤ j) (h1 : k < m) : OkS m [j, k] := by
  refine ⟨List.pairwise_cons.mpr ⟨fun x hx => by rw [List.mem_singleton.mp hx]; exact h, List.pairwise_singleton _ _⟩, fun x hx => ?_, fun x hx => ?_⟩
  · rcases List.mem_cons.mp hx with e | e
    · rw [e]; exact h0
    · rw [List.mem_singleton.mp e]; omega
  · rcases List.mem_cons.mp hx with e | e
    · rw [e]; omega
    · rw [List.mem_singleton.mp e]; exact h1
theorem has_rules_of (Z : Zk K mg) (TB : TbF K mg base) : Has P w K mg base 4 "_law_rules_of" (spX (tabsT K) (He.ga K "Book") P_rules_of R_rules_of) := by
  have hN : (["_law_draws", "_law_marks", "_law_kind", "_law_size", "_law_one", "_law_mark"] : List Str).Nodup := by decide +kernel
  refine has_X (N := ["_law_draws", "_law_marks", "_law_kind", "_law_size", "_law_one", "_law_mark"]) (ps := ["_law_draws", "_law_marks"]) (d := dF 85 "_law_rules_of" "_law_rules_of") (Z.d 65 rfl rfl rfl) (Z.glo 56 rfl) ⟨rfl, rfl, rfl, hN, rfl, by decide +kernel, by decide +kernel⟩ (fun ds ⟨_, _, _, h⟩ => by rw [h]; rfl) (fun _ _ _ _ _ _ us hl => match us, hl with | [_, _], _ => rfl) (fun f cd A outer s0 H E hr0 p ds dr hP Q q => ?_)
  obtain ⟨m, h0, h5, rfl⟩ := hP
  have fin : ∀ (rs : Rules) (v : V) (H' : Hp), Exb (tabsT K) (fun b => b = p) H H' → DR H' p → OkR m rs → At (He.ga K "Book") H' (rsD rs) v → Q v H' := fun rs v H' e d ho a => q _ v H' e d (fun m' he _ _ => by
    injection he with h1 _
    injection h1 with h1
    have h1 : m = m' := by omega
    subst h1
    exact ⟨rs, rfl, ho⟩) a
  refine sd_setX (i := 2) (R := fun d => ∃ r : Int, d = .i r ∧ 0 ≤ r ∧ r < 4) hN rfl (by first | exact .inl rfl | exact .inr rfl) dr (PX.imp (px_call1 (i := 0) (R1 := fun d => d = .i 4) (has_take Z) hr0 rfl (by first | exact .inl rfl | exact .inr (.inl rfl) | exact .inr (.inr rfl)) rfl (px_pd fun H => pd_int) (fun d hd => ⟨4, by rw [hd], by decide⟩)) ?_) ?_
  · rintro d ⟨d1, h1, h2⟩
    subst h1
    exact take_of h2
  rintro d H1 e1 dr1 ⟨kd, rfl, k0, k4⟩
  refine sd_if (td_eqI (pdv 2) pd_int) (fun hw => ?_) (fun hw => sd_on ?_)
  · refine sd_retX dr1 (px_call2 (i := 0) (R1 := fun d => d = .i 6) (has_rules Z) hr0 rfl (by first | exact .inl rfl | exact .inr (.inl rfl) | exact .inr (.inr rfl)) rfl (fun H => pdv 1) (px_pd fun H => pd_int) (fun d hd => ⟨m, h5, by rw [hd]⟩)) ?_
    rintro d v H2 e2 d2 ⟨d1, h1, h2⟩ a2
    obtain ⟨rs, rfl, hl, hok⟩ := h2 m ⟨6, by rw [h1]⟩
    exact fin rs v H2 (e1.trans e2) d2 ⟨h0, h5, hl, hok⟩ a2
  refine sd_if (td_eqI (pdv 2) pd_int) (fun hw => ?_) (fun hw => sd_on ?_)
  · refine sd_setX (i := 3) (R := fun d => ∃ r : Int, d = .i r) hN rfl (by first | exact .inl rfl | exact .inr rfl) dr1 (PX.imp (px_addL (R1 := fun d => True) (fun H => pd_int) (PX.imp (px_call1 (i := 0) (R1 := fun d => d = .i m) (has_take Z) hr0 rfl (by first | exact .inl rfl | exact .inr (.inl rfl) | exact .inr (.inr rfl)) rfl (px_pd fun H => pdv 1) (fun d hd => ⟨m, by rw [hd], by omega⟩)) ?_)) ?_) ?_
    · rintro d ⟨d1, h1, h2⟩
      subst h1
      obtain ⟨r, rfl, _⟩ := take_of h2
      exact ⟨r, rfl, True.intro⟩
    · rintro d ⟨n, rfl, _⟩
      exact ⟨_, rfl⟩
    rintro d H2 e2 d2 ⟨sz, rfl⟩
    refine sd_ret (d := rsD ((((setsOf m).filter fun s => decide ((s.length : Int) = sz)).map fun s => (s, mks m)).take 16)) (PD.is (pd_tupleL Z.tuple_ (PL.r (pl_slL (h := some 16) (PL.r (pl_lcI (own := [("_law_one", 4)]) (is := [4]) (setsOf m) (sD) _ _ _ rfl hN (id_listR (PL.r (pl_callH (has__law_sets Z TB) hr0 (ad_cons (pdv 1) ad_nil) (fun _ _ => ⟨m, h5, rfl, rfl⟩)))) (blk_ok (by kernel_rfl)) (fun _ _ _ _ _ => pg_name (i := 4) hN rfl (by first | exact .inl rfl | exact .inr rfl)) (fun a ha => (gd_name)) (by decide) (fun a ha s0 H0 C cl fp => (td_eqI (pd_lenT Z.len (pdv 4)) (pdv 3))) (fun a ha hp s0 H0 C cl fp => (pd_tup (ad_cons (pdv 4) (ad_cons (pd_tupRg1 rfl Z.tuple_ Z.range (pdv 1) ?_) ad_nil)) ?_)) ?_)) od_none (od_some pd_int)))) ?_) ?_
    · omega
    · show 2 ≤ 2 ^ 24; decide
    · exact setsOf_sz h5
    · rw [cut16]
      have e1' : ((setsOf m).filter fun s => decide (((s.map D.i).length : Int) = sz)) = (setsOf m).filter fun s => decide ((s.length : Int) = sz) := by
        congr 1
        funext s
        rw [List.length_map]
      rw [e1']
      show D.t _ = D.t _
      rw [List.map_take, List.map_map]
      congr 3
      funext s
      show D.t [sD s, .t (rgD 0 (m : Int).toNat)] = _
      rw [Int.toNat_natCast, rgD_mks]
      rfl
    · intro v H3 e3 a3
      refine fin _ v H3 ((e1.trans e2).trans (Ex.to e3)) (d2.ex e3) ⟨h0, h5, by rw [List.length_take]; omega, fun r hr => ?_⟩ a3
      obtain ⟨s, hs, rfl⟩ := List.mem_map.mp (List.mem_of_mem_take hr)
      exact ⟨mem_setsOf (List.mem_filter.mp hs).1, mks_ok m⟩
  refine sd_if (td_eqI (pdv 2) pd_int) (fun hw => ?_) (fun hw => sd_on ?_)
  · refine sd_ret (d := rsD ((List.range (m - 2)).map fun (k : Nat) => ([1 + (k : Int) - 1, 1 + (k : Int) + 1], [1 + (k : Int)]))) (PD.is (pd_tupleL Z.tuple_ (PL.r (pl_lc (own := [("_law_mark", 5)]) (is := [5]) _ _ _ _ rfl hN (id_range2 Z.range pd_int (pd_sub (pdv 1) pd_int) ?_) (blk_ok (by kernel_rfl)) (fun _ _ _ _ _ => pg_name (i := 5) hN rfl (by first | exact .inl rfl | exact .inr rfl)) (fun a ha => (gd_name)) (by decide) (fun a ha s0 H0 C cl fp => (pd_tup (ad_cons (pd_tup (ad_cons (pd_sub (pdv 5) pd_int) (ad_cons (pd_add (pdv 5) pd_int) ad_nil)) ?_) (ad_cons (pd_tup (ad_cons (pdv 5) ad_nil) ?_) ad_nil)) ?_)) ?_))) ?_) ?_
    · omega
    · show 2 ≤ 2 ^ 24; decide
    · show 1 ≤ 2 ^ 24; decide
    · show 2 ≤ 2 ^ 24; decide
    · rw [List.length_range]
      show _ < 2 ^ 24
      omega
    · rw [show ((m : Int) - 1 - 1).toNat = m - 2 by omega]
      show D.t _ = D.t _
      rw [List.map_map]
      rfl
    · intro v H3 e3 a3
      refine fin _ v H3 (e1.trans (Ex.to e3)) (dr1.ex e3) ⟨h0, h5, by rw [List.length_map, List.length_range]; omega, fun r hr => ?_⟩ a3
      obtain ⟨k, hk, rfl⟩ := List.mem_map.mp hr
      have hk := List.mem_range.mp hk
      exact ⟨two_ok (by omega) (by omega) (by omega), one_ok (by omega) (by omega)⟩
  · refine sd_retX dr1 (px_tupleL Z.tuple_ (pxl_lc (own := [("_law_mark", 5)]) (is := [5]) (List.range (m - 1)) (fun (k : Nat) => D.i (1 + (k : Int))) (fun (k : Nat) => D.t [.t [.i (1 + (k : Int))], .t [.i (1 + (k : Int) - 1)]]) _ rfl hN (fun H => ID.is (id_range2 Z.range pd_int (pdv 1) ⟨by omega, by omega, by omega, by omega⟩) (by rw [show ((m : Int) - 1).toNat = m - 1 by omega]; rfl)) (blk_ok (by kernel_rfl)) (fun _ _ _ _ _ => pg_name (i := 5) hN rfl (by first | exact .inl rfl | exact .inr rfl)) (fun a ha => gd_name) (by decide)
      (fun a ha s0 H0 C cl fp => tx_cmp (R1 := fun _ => True) op_gt (PX.imp (px_call1 (i := 0) (R1 := fun d => d = .i 3) (has_take Z) hr0 rfl (by first | exact .inl rfl | exact .inr (.inl rfl) | exact .inr (.inr rfl)) rfl (px_pd fun H => pd_int) (fun d hd => ⟨3, by rw [hd], by decide⟩)) (fun d ⟨d1, h1, h2⟩ => by
        subst h1
        obtain ⟨r, e, _⟩ := h2 3 rfl
        exact ⟨r, e, True.intro⟩)) (fun H => pd_int)) (fun a ha s0 H0 C cl fp H => pd_tup (ad_cons (pd_tup (ad_cons (pdv 5) ad_nil) (by show 1 ≤ 2 ^ 24; decide)) (ad_cons (pd_tup (ad_cons (pd_sub (pdv 5) pd_int) ad_nil) (by show 1 ≤ 2 ^ 24; decide)) ad_nil)) (by show 2 ≤ 2 ^ 24; decide)) (by rw [List.length_range]; show _ < 2 ^ 24; omega))) ?_
    rintro d v H2 e2 d2 ⟨ds, ⟨ys, hs, rfl⟩, rfl⟩ a2
    have e : D.t (ys.map fun (k : Nat) => D.t [.t [.i (1 + (k : Int))], .t [.i (1 + (k : Int) - 1)]]) = rsD (ys.map fun (k : Nat) => ([1 + (k : Int)], [1 + (k : Int) - 1])) := by
      show D.t _ = D.t _
      rw [List.map_map]
      rfl
    rw [e] at a2
    refine fin _ v H2 (e1.trans e2) d2 ⟨h0, h5, by have := hs.length_le; rw [List.length_range] at this; rw [List.length_map]; omega, fun r hr => ?_⟩ a2
    obtain ⟨k, hk, rfl⟩ := List.mem_map.mp hr
    have hk := List.mem_range.mp (hs.subset hk)
    exact ⟨one_ok (by omega) (by omega), one_ok (by omega) (by omega)⟩
end
end G30
set_option Elab.async false
set_option linter.all false
set_option maxRecDepth 100000
set_option maxHeartbeats 4000000
set_option autoImplicit false
namespace G30
open PySem PySem.Spec PyProof.Rows L2 LamX StX SlX
section
variable {P : Program} {w : World} {K : PySem.W.Frag} {mg : Str → Option Value} {base : Heap} {T : List (Addr × Str)}
/-! ### Book(..) -/
def spBk (T : List (Addr × Str)) (B : Addr) : Sp := fun vs H Q _ => ∃ (p dx : Addr) (m : Nat) (rs : Rules) (r : V), vs = [.ref p, .int m, r] ∧ Tabs T H ∧ H p = some (.ins B dx []) ∧ H dx = some (.own p) ∧ dx ≠ p ∧ OkR m rs ∧ At B H (rsD rs) r ∧
  ∀ H', Exb T (fun b => b = p ∨ b = dx) H H' → At B H' (bkD m rs) (.ref p) → Q .non H'
theorem exb_slH {H : Hp} {p B dx : Addr} {vs : List (Option V)} (hp : H p = some (.ins B dx [])) (hd : H dx = some (.own p)) (ne : dx ≠ p) : Exb T (fun b => b = p ∨ b = dx) H (slH H p B dx vs) := by
  have e1 : Exb T (fun b => b = p ∨ b = dx) H (upd H dx (.xd [])) := (Exb.refl H).mut (.inr rfl) hd rfl (fun ps z => by cases z)
  unfold slH
  exact e1.mut (.inl rfl) (by rw [upd_ne (Ne.symm ne)]; exact hp) rfl (fun ps z => by cases z) (fun ps z => by unfold SlO at z; cases z)
theorem fnr_Book (Z : Zk K mg) : FnR P w K mg base CX0 4 (He.fAd K ("Book", some "__init__")) (spBk T (He.ga K "Book")) := by
  have hN : (["self", "marks", "rules", "one"] : List Str).Nodup := by decide +kernel
  refine (fnr_of (x := "__init__") (N := ["self", "marks", "rules", "one"]) (ps := ["self", "marks", "rules"]) (d := dM 23 1 "Book" "__init__" "Book.__init__") (k := 3) (Z.d 9 rfl rfl rfl) ⟨rfl, rfl, rfl, hN, rfl, by decide +kernel, by decide +kernel⟩ (fun vs H Q E ⟨p, dx, m, rs, r, h, _⟩ => by rw [h]; rfl) (fun _ _ _ _ _ _ us hl => match us, hl with | [_, _, _], _ => rfl) fun f cd A outer s0 H E hr0 vs Q ⟨p, dx, m, rs, r, ev, t, hp, hd, ne, ho, hv, q⟩ => ?_).1
  subst ev
  have h5 := ho.m5
  have h0 := ho.m0
  have body : SD (bx P w K mg base ["self", "marks", "rules", "one"] (dM 23 1 "Book" "__init__" "Book.__init__") f cd A outer s0 H E) T (He.ga K "Book") (dM 23 1 "Book" "__init__" "Book.__init__").body (startG ["self", "marks", "rules", "one"] [.r p, .i m, rsD rs]) H { nx := fun _ H' => Q .non H', rt := Q } := by
    refine sd_skip (TD.is (td_not (td_val (pd_call (has_is_integer Z) hr0 (ad_cons (pdv 1) (ad_cons pd_int (ad_cons (pd_gint rfl Z.most_marks) ad_nil))) ⟨_, _, _, rfl, rfl⟩))) ?_) ?_
    · rw [decide_eq_true (by omega : (1 : Int) ≤ m), decide_eq_true (by omega : (m : Int) ≤ 5)]; rfl
    refine sd_skip (TD.is (WD.t (wd_or (td_not (td_val (pd_isi (r := true) Z.isinstance Z.tuple_ boot_tuple (pdv 2) rfl (by decide +kernel)))) (fun _ => (wd_or (td_gt (pd_lenT Z.len (pdv 2)) (pd_gint rfl Z.most_rules)) (fun _ => (wd_or1 (td_not (td_val (pd_allM rfl Z.all (PL.r (pl_lc (own := [("one", 3)]) (is := [3]) (rs) (ruD) _ _ rfl hN (id_tup (pdv 2)) (blk_ok (by kernel_rfl)) (fun _ _ _ _ _ => pg_name (i := 3) hN rfl (by first | exact .inl rfl | exact .inr rfl)) (fun a ha => (gd_name)) (by decide) (fun a ha s0 H0 C cl fp => (pd_call (has_is_rule Z) hr0 (ad_cons (pdv 1) (ad_cons (pdv 3) ad_nil)) ⟨_, _, h5, (ho.ok _ ha).1, (ho.ok _ ha).2, rfl, rfl⟩)) ?_))))))))))) ?_) ?_
    · have := ho.len
      show rs.length < 2 ^ 24
      omega
    · have e1 : decide ((16 : Int) < ((rs.map ruD).length : Nat)) = false := by
        rw [List.length_map]
        exact decide_eq_false (by have := ho.len; omega)
      have e2 : (rs.all fun _ => true) = true := List.all_eq_true.mpr fun _ _ => rfl
      rw [e1, e2]
      rfl
    intro σ H1 x1 s
    have hp1 : H1 p = some (.ins (He.ga K "Book") dx []) := x1.keep p _ hp (fun z => z) (fun ps z => by cases z)
    have hd1 : H1 dx = some (.own p) := x1.keep dx _ hd (fun z => z) (fun ps z => by cases z)
    obtain ⟨pm, sm⟩ := Z.bk.m
    obtain ⟨pr, sr⟩ := Z.bk.r
    obtain ⟨v1, g1, a1⟩ := s.at_ 1 (.i m) rfl
    have a1 : v1 = .int m := a1
    subst a1
    obtain ⟨v2, g2, a2⟩ := s.at_ 2 (rsD rs) rfl
    refine wS_cons (ps_sl (pe_var (i := 0) rfl (by first | exact .inl rfl | exact .inr (.inl rfl) | exact .inr (.inr rfl))) (pe_var (i := 1) rfl (by first | exact .inl rfl | exact .inr (.inl rfl) | exact .inr (.inr rfl)))) ?_
    refine ⟨_, g1, _, dkv 0 s rfl, p, _, dx, pm, [], 0, rfl, .inl ⟨hp1, rfl⟩, Z.bk.c, sm, ?_⟩
    refine wS_cons (ps_sl (pe_var (i := 0) rfl (by first | exact .inl rfl | exact .inr (.inl rfl) | exact .inr (.inr rfl))) (pe_var (i := 2) rfl (by first | exact .inl rfl | exact .inr (.inl rfl) | exact .inr (.inr rfl)))) ?_
    refine ⟨_, g2, _, dkv 0 s rfl, p, _, dx, pr, _, 1, rfl, slH_slt ne, Z.bk.c, sr, ?_⟩
    rw [slH_twice ne]
    have em : Exb T (fun b => b = p ∨ b = dx) H1 (slH H1 p (He.ga K "Book") dx [some (.int m), some v2]) := exb_slH hp1 hd1 ne
    exact wS_nil (q _ ((Ex.to x1).trans em) ⟨p, dx, v2, rfl, upd_same, by unfold slH; rw [upd_ne ne, upd_same], a2.mono em⟩)
  exact body _ H (Exb.refl _) (sl_start t ⟨_, _, rfl, rfl, _, _, rfl, rfl, _, _, rfl, hv, rfl⟩)
/-- Book(a, b), b draws -/
theorem px_book {X : Cx} {B p g : Addr} {Γ : List (Option D)} {a b : Expr} {pos pp : Pos} {k m : Nat} {R : D → Prop} (M : Mk X.K B g) (G : FnR X.prog X.w X.K X.mg X.base CX0 4 g (spBk T B)) (hr : Room k X.A) (hm : X.mg "Book" = some (.ref B)) (h0 : ∀ H, PD X T B a Γ H (.i m)) (h : PX X T B p b Γ (fun d => ∃ rs, d = rsD rs ∧ OkR m rs)) (hk : 5 ≤ k := by decide) (hg : Gl X "Book" := by rfl)
    (he : starEach [a, b] X.env = (false, eval a X.env) :: starEach [b] X.env := by rfl) (he2 : starEach [b] X.env = (false, eval b X.env) :: starEach [] X.env := by rfl) (hpl : (backTo pos (starEach [b] X.env)).any (·.1) = false := by rfl) :
    PX X T B p (.Call (.Name "Book" pp) [a, b] [] pos) Γ (fun d => ∃ rs, d = bkD m rs ∧ OkR m rs) := fun σ H1 dr s Q q => by
  refine PE.w (pe_makeR M G (hr.mono hk) hg hm pass0 (pa_cons (peS X a) (pa_cons (peS X b) pa_nil he2) he) (by decide) he hpl) (h0 H1 σ H1 (Exb.refl _) s _ fun v H2 e2 a2 => h σ H2 (dr.ex e2) (s.mono e2) _ fun d u H3 e3 d3 ⟨rs, ed, ho⟩ a3 px dx hnx hnd hne => ?_)
  subst ed
  have a2 : v = .int m := a2
  subst a2
  have en : Ex T H3 (upd (upd H3 dx (.own px)) px (.ins B dx [])) := (Ex.new hnd).trans (Ex.new (by rw [upd_ne (Ne.symm hne)]; exact hnx))
  refine ⟨px, dx, m, rs, u, rfl, en.tabs (e3.tabs (e2.tabs s.tabs)), upd_same, by rw [upd_ne hne, upd_same], hne, ho, a3.mono en, fun H4 e4 a4 => ⟨rfl, ?_⟩⟩
  have e34 : Ex T H3 H4 := ((Ex.to en).trans e4).drop fun b hb => by
    rcases hb with e | e
    · rw [e]; exact Nw.of hnx
    · rw [e]; exact Nw.of hnd
  exact q _ _ H4 ((Ex.to e2).trans (e3.trans (Ex.to e34))) (d3.ex e34) ⟨rs, rfl, ho⟩ a4
end
end G30
set_option Elab.async false
set_option linter.all false
set_option maxRecDepth 100000
set_option maxHeartbeats 4000000
set_option autoImplicit false
namespace G30
open PySem PySem.Spec PyProof.Rows L2 LamX StX SlX
section
variable {X : Cx} {T : List (Addr × Str)} {B : Addr} {Γ : List (Option D)} {H : Hp} {d : D} {ds : List D} {e a b : Expr} {pos p : Pos} {F : Ends} {rest : List Stmt}
theorem pd_int1 {n : Int} (hm : X.mg "int" = none) (ha : PD X T B e Γ H (.i n)) (hg : Gl X "int" := by rfl) (he : starEach [e] X.env = (false, eval e X.env) :: starEach [] X.env := by rfl) (hpl : (backTo pos (starEach [] X.env)).any (·.1) = false := by rfl) :
    PD X T B (.Call (.Name "int" p) [e] [] pos) Γ H (.i n) := fun σ H1 x s Q q =>
  PE.w (pe_callTy call_int1 hg hm boot_int (pa_cons (peS X e) pa_nil he) (by decide) (by decide) he hpl) (ha σ H1 x s _ fun v H2 e2 a2 => .inl ⟨n, by rw [show v = V.int n from a2], q _ H2 e2 rfl⟩)
theorem pd_abs {n : Int} (hm : X.mg "abs" = none) (ha : PD X T B e Γ H (.i n)) (hg : Gl X "abs" := by rfl) (he : starEach [e] X.env = (false, eval e X.env) :: starEach [] X.env := by rfl) (hpl : (backTo pos (starEach [] X.env)).any (·.1) = false := by rfl) :
    PD X T B (.Call (.Name "abs" p) [e] [] pos) Γ H (.i (if n < 0 then -n else n)) := pd_blt call_abs hm (by decide +kernel) (ad_cons ha ad_nil he) (fun vs H1 _ h Q k => by
      obtain ⟨v, rfl, hv⟩ := AtL.single h
      exact ⟨n, by rw [show v = V.int n from hv], k _ H1 (Exb.refl _) rfl⟩) hg (by decide) (by decide) he hpl
inductive AllC : List Expr → List Int → Prop where
  | nil : AllC [] []
  | cons {k : Int} {j : Nat} {p : Pos} {es : List Expr} {ns : List Int} (h : AllC es ns) : AllC (.Constant (.int k) j p :: es) (k :: ns)
theorem ad_ints {es : List Expr} {ns : List Int} (h : AllC es ns) : AD X T B es Γ H (ns.map D.i) := by
  induction h with
  | nil => exact ad_nil
  | cons h ih => exact ad_cons pd_int ih rfl
/-- a goal that is not looked through -/
structure Box (p : Prop) : Prop where
  out : p
/-- x = (constants) -/
theorem box_setC {i kk : Nat} {x : Str} {p1 p2 p3 : Pos} {es : List Expr} {ns : List Int} (hN : X.N.Nodup) (hi : X.N[i]? = some x) (hx : Loc X.env.scope x) (hc : AllC es ns) (hl : (ns.map D.i).length ≤ sizeLine) (k : Box (SD X T B rest (Γ.set i (some (.t (ns.map D.i)))) H F)) (hs : swapsWith (.Tuple es kk p2) (some (.Name x p1)) p3.line X.env = pure false)
    (hf : X.fn x = true ∨ X.env.scope.names.lookup x = some .local) : Box (SD X T B (.Assign [.Name x p1] (.Tuple es kk p2) p3 :: rest) Γ H F) :=
  ⟨sd_set hN hi hx (pd_tup (ad_ints hc) hl) k.out hs hf⟩
theorem sd_retV {R : D → Prop} (h : PV X T B e Γ H (fun v H2 => ∃ d, R d ∧ At B H2 d v)) (q : ∀ d v H1, R d → Ex T H H1 → At B H1 d v → F.rt v H1) : SD X T B (.Return (some e) pos :: rest) Γ H F := fun σ H1 x s =>
  wS_cons (ps_ret (peS X e)) (h σ H1 x s _ fun v H2 e2 ⟨d, hR, a2⟩ => q d v H2 hR (x.trans e2) a2)
end
section
variable {P : Program} {w : World} {K : PySem.W.Frag} {mg : Str → Option Value} {base : Heap} {T : List (Addr × Str)}
/-! ### the pool of draws -/
def P_draw (ds : List D) : Prop := ∃ c k n : Int, ds = [.i c, .i k, .i n] ∧ 0 < n
def R_draw (ds : List D) (d : D) : Prop := ∀ c k n : Int, ds = [.i c, .i k, .i n] → ∃ r, d = .i r ∧ 0 ≤ r ∧ r < n
def primesN : List Int := [1000003, 1000033, 1000037, 1000039, 1000081, 1000099, 1000117, 1000121, 1000133, 1000151, 1000159, 1000171, 1000183, 1000187, 1000193, 1000199]
theorem primes_pos : ∀ p ∈ primesN, 0 < p := by decide
theorem primes_at (k : Int) : ∃ p : Int, atI (primesN.map D.i) (k % 16) = some (.i p) ∧ 0 < p := by
  have h0 : 0 ≤ k % 16 := Int.emod_nonneg _ (by decide)
  have h1 : k % 16 < 16 := Int.emod_lt_of_pos _ (by decide)
  generalize k % 16 = j at h0 h1
  obtain ⟨n, rfl⟩ : ∃ n : Nat, j = n := ⟨j.toNat, (Int.toNat_of_nonneg h0).symm⟩
  have hn : n < primesN.length := by show n < 16; omega
  refine ⟨primesN[n], ?_, primes_pos _ (List.getElem_mem hn)⟩
  unfold atI
  rw [List.length_map, ixN_nat hn]
  show (primesN.map D.i)[n]? = _
  rw [List.getElem?_map, List.getElem?_eq_getElem hn]
  rfl
theorem has_EB {x : Str} {N ps : List Str} {k : Nat} {B : Addr} {d : He.DefD} {Pre : List D → Prop} {R : List D → D → Prop} (D0 : DefOk K mg x d) (g : mg x = some (.ref (He.fAd K d.at_))) (S : FnScope N ps d.scope) (hlen : ∀ ds, Pre ds → ds.length = ps.length)
    (hb : ∀ (kV doc pm : Value) (an : Option Addr) (cdv ct : Value) (us : List Value), us.length = ps.length → bindArgs (PySem.W.fnOf d.name d.qual d.params d.body d.scope .none kV doc pm an cdv ct) ⟨us, []⟩ = pure (ps.zip us))
    (body : ∀ f cd A outer s H E, Room k (bx P w K mg base N d f cd A outer s H E).A → ∀ ds, Pre ds → ∀ Q : VK, (∀ d v H', R ds d → Ex T H H' → At B H' d v → Q v H') → Box (SD (bx P w K mg base N d f cd A outer s H E) T B d.body (startG N ds) H { nx := fun _ H' => Q .non H', rt := Q })) :
    Has P w K mg base (k + 1) x (spE T B Pre R) := has_E D0 g S hlen hb fun f cd A outer s H E hr ds hP Q q => (body f cd A outer s H E hr ds hP Q q).out
set_option maxHeartbeats 200000 in
theorem has_draw (Z : Zk K mg) : Has P w K mg base 1 "_law_draw" (spE T (He.ga K "Book") P_draw R_draw) := by
  have hN : (["_law_cell", "_law_k", "_law_many", "_law_primes"] : List Str).Nodup := by decide +kernel
  refine has_EB (N := ["_law_cell", "_law_k", "_law_many", "_law_primes"]) (ps := ["_law_cell", "_law_k", "_law_many"]) (d := dF 75 "_law_draw" "_law_draw") (Z.d 55 rfl rfl rfl) (Z.glo 46 rfl) ⟨rfl, rfl, rfl, hN, rfl, by decide +kernel, by decide +kernel⟩ (fun ds ⟨_, _, _, h, _⟩ => by rw [h]; rfl) (fun _ _ _ _ _ _ us hl => match us, hl with | [_, _, _], _ => rfl) (fun f cd A outer s0 H E hr0 ds hP Q q => ?_)
  obtain ⟨c, kk, n, rfl, hn⟩ := hP
  obtain ⟨p, hp, hp0⟩ := primes_at kk
  refine box_setC (ns := primesN) (i := 3) hN rfl (.inl rfl) (by repeat' constructor) (by show 16 ≤ 2 ^ 24; decide) ⟨?_⟩ rfl (.inr rfl)
  have hc : ∀ m j : Int, j = 48271 ∨ j = 69621 → CMul m j := fun m j h => .inr (by omega)
  refine sd_ret (pd_mod (pd_int1 Z.int_ (pd_mod (pd_int1 Z.int_ (pd_add (pd_mul (pdv 0) pd_int (hc _ _ (.inl rfl))) (pd_mul (pdv 1) pd_int (hc _ _ (.inr rfl))))) (pd_ixT (pdv 3) (pd_mod (pdv 1) pd_int (by decide)) hp) hp0)) (pdv 2) hn) ?_
  intro v H1 e1 a1
  refine q _ v H1 (fun c' k' n' h => ?_) e1 a1
  injection h with h1 h
  injection h with h2 h
  injection h with h3 _
  injection h3 with h3
  subst h3
  exact ⟨_, rfl, Int.emod_nonneg _ (by omega), Int.emod_lt_of_pos _ hn⟩
/-- n has at most e bits -/
def BT (e : Nat) (n : Int) : Prop := n.natAbs < 2 ^ e
end
end G30
set_option Elab.async false
set_option linter.all false
set_option maxRecDepth 100000
set_option maxHeartbeats 4000000
set_option autoImplicit false
namespace G30
open PySem PySem.Spec PyProof.Rows L2 LamX StX SlX
section
variable {X : Cx} {T : List (Addr × Str)} {B : Addr} {Γ : List (Option D)} {H : Hp} {d : D} {ds : List D} {e a b : Expr} {pos p : Pos} {F : Ends} {rest : List Stmt} {i j : Nat} {x y : Str}
/-- a, b = e, list: the first one open -/
theorem sd_parVL {R : D → Prop} (hc : X.calm = true) (hN : X.N.Nodup) (hi : X.N[i]? = some x) (hj : X.N[j]? = some y) (hij : i ≠ j) (hx : X.env.scope.names.lookup x = some .local) (hy : X.env.scope.names.lookup y = some .local) {px py pt : Pos} {kt k2 pt2}
    (ha : PV X T B a Γ H (fun v H2 => ∃ d, R d ∧ At B H2 d v)) (hb : PL X T B b Γ H ds) (hw : swappedStores [.Tuple [.Name x px, .Name y py] kt pt] (.Tuple [a, b] k2 pt2) X.env = pure (some [x, y]))
    (k : ∀ d p vs H1, R d → Nw H p → Ex T H H1 → H1 p = some (.lst vs) → AtL B H1 ds vs → SD X T B rest ((Γ.set i (some d)).set j (some (.r p))) H1 F)
    (hs : swapsWithSole [.Tuple [.Name x px, .Name y py] kt pt] (.Tuple [a, b] k2 pt2) pos.line X.env = pure false := by rfl)
    (he : starEach [a, b] X.env = (false, eval a X.env) :: starEach [b] X.env := by rfl) (he2 : starEach [b] X.env = (false, eval b X.env) :: starEach [] X.env := by rfl) : SD X T B (.Assign [.Tuple [.Name x px, .Name y py] kt pt] (.Tuple [a, b] k2 pt2) pos :: rest) Γ H F := fun σ H1 x s =>
  wS_cons (ps_par hc hN hi hj hij hx hy (pa_cons (peS X a) (pa_cons (peS X b) pa_nil he2) he) hw hs) (ha σ H1 x s _ fun v H2 e2 ⟨d, hR, at2⟩ => hb σ H2 (x.trans e2) (s.mono e2) _ fun p vs H3 hn e3 hp hv =>
    ⟨v, .ref p, rfl, k d p vs H3 hR (x.free (e2.free hn)) ((x.trans e2).trans e3) hp hv _ H3 (Exb.refl _) (((s.mono (e2.trans e3)).set (at2.mono e3)).set rfl)⟩)
theorem pd_pow {m n : Int} (ha : PD X T B a Γ H (.i m)) (hb : PD X T B b Γ H (.i n)) (hc : CPow m n) : PD X T B (.BinOp a .Pow b pos) Γ H (.i (m ^ n.toNat)) := pd_op op_pow ha hb (rd_I hc fun _ => rfl)
end
section
variable {P : Program} {w : World} {K : PySem.W.Frag} {mg : Str → Option Value} {base : Heap} {T : List (Addr × Str)}
theorem BT.mono {e f : Nat} {n : Int} (h : BT e n) (k : e ≤ f) : BT f n := Nat.lt_of_lt_of_le h (Nat.pow_le_pow_right (by decide) k)
theorem BT.add {e : Nat} {m n : Int} (h : BT e m) (k : BT e n) : BT (e + 1) (m + n) := by
  unfold BT at *
  rw [Nat.pow_succ]
  omega
theorem BT.small {e : Nat} {n : Int} (h : n.natAbs < 1000000000) (k : 64 ≤ e) : BT e n := BT.mono (e := 64) (Nat.lt_of_lt_of_le h (by decide)) k
theorem BT.abs {e : Nat} {n : Int} (h : BT e n) : BT e (if n < 0 then -n else n) := by
  unfold BT at *
  split
  · rw [Int.natAbs_neg]; exact h
  · exact h
/-- an open promise that looks at the heap -/
def spHE (T : List (Addr × Str)) (B : Addr) (C : Hp → List D → (D → Prop) → Prop) : Sp := fun vs H Q _ => ∃ ds R, AtL B H ds vs ∧ Tabs T H ∧ C H ds R ∧ ∀ d v H', R d → Ex T H H' → At B H' d v → Q v H'
theorem has_HE {x : Str} {N ps : List Str} {k : Nat} {B : Addr} {d : He.DefD} {C : Hp → List D → (D → Prop) → Prop} (D0 : DefOk K mg x d) (g : mg x = some (.ref (He.fAd K d.at_))) (S : FnScope N ps d.scope) (hlen : ∀ H ds R, C H ds R → ds.length = ps.length)
    (hb : ∀ (kV doc pm : Value) (an : Option Addr) (cdv ct : Value) (us : List Value), us.length = ps.length → bindArgs (PySem.W.fnOf d.name d.qual d.params d.body d.scope .none kV doc pm an cdv ct) ⟨us, []⟩ = pure (ps.zip us))
    (body : ∀ f cd A outer s H E, Room k (bx P w K mg base N d f cd A outer s H E).A → ∀ ds R, C H ds R → ∀ Q : VK, (∀ d v H', R d → Ex T H H' → At B H' d v → Q v H') → SD (bx P w K mg base N d f cd A outer s H E) T B d.body (startG N ds) H { nx := fun _ H' => Q .non H', rt := Q }) :
    Has P w K mg base (k + 1) x (spHE T B C) := by
  obtain ⟨h1, h2⟩ := fnr_of (N := N) (ps := ps) (k := k) (P := P) (w := w) (base := base) (sp := spHE T B C) D0 S (fun vs H Q E ⟨ds, R, a, t, hR, _⟩ => by rw [a.len]; exact hlen H ds R hR) hb fun f cd A outer s H E hr vs Q ⟨ds, R, a, t, hR, q⟩ => body f cd A outer s H E hr ds R hR Q q _ H (Exb.refl _) (sl_start t a)
  exact ⟨_, g, h2, h1⟩
theorem pv_callHE {X : Cx} {B : Addr} {Γ : List (Option D)} {H : Hp} {ds : List D} {e : Expr} {es : List Expr} {p pos : Pos} {j k : Nat} {x : Str} {C : Hp → List D → (D → Prop) → Prop} {R : D → Prop} (F : Has X.prog X.w X.K X.mg X.base j x (spHE T B C)) (hr : Room k X.A) (ha : AD X T B (e :: es) Γ H ds) (hP : ∀ H1, Ex T H H1 → C H1 ds R) (hjk : j ≤ k := by decide) (hg : Gl X x := by rfl) (hd : (x == ("__debug__" : Str)) = false := by decide)
    (he : starEach (e :: es) X.env = (false, eval e X.env) :: starEach es X.env := by rfl) (hpl : (backTo pos (starEach es X.env)).any (·.1) = false := by rfl) : PV X T B (.Call (.Name x p) (e :: es) [] pos) Γ H (fun v H2 => ∃ d, R d ∧ At B H2 d v) := fun σ H1 x1 s Q q => by
  obtain ⟨f, hm, hk, F⟩ := F
  exact PE.w (pe_callR F (hr.mono hjk) hk hg hm pass0 (paS X (e :: es)) hd he hpl) (ha σ H1 x1 s _ fun vs H2 e2 at2 => ⟨ds, R, at2, e2.tabs s.tabs, hP H2 (x1.trans e2), fun d v H' hR e3 at3 => q v H' (e2.trans e3) ⟨d, hR, at3⟩⟩)
/-- the script's cells -/
structure Cells (K : PySem.W.Frag) (H : Hp) (p : Addr) (ns : List Int) (e : Nat) : Prop where
  l : SqL K H p (ns.map V.int)
  b : ∀ n ∈ ns, BT e n
  n : ns.length ≤ 63
  e0 : 64 ≤ e
  e1 : e ≤ 2000000
theorem Cells.ex {H H' : Hp} {p : Addr} {ns : List Int} {e : Nat} (c : Cells K H p ns e) (x : Ex T H H') : Cells K H' p ns e := ⟨Ex.sql x c.l, c.b, c.n, c.e0, c.e1⟩
def C_cell (K : PySem.W.Frag) (H : Hp) (ds : List D) (R : D → Prop) : Prop := ∃ p ns e, ∃ k : Nat, Cells K H p ns e ∧ ds = [.r p, .i k] ∧ R = fun d => ∃ c, d = .i c ∧ BT e c
theorem has_cell_at (Z : Zk K mg) : Has P w K mg base 2 "_law_cell_at" (spHE T (He.ga K "Book") (C_cell K)) := by
  have hN : (["_law_script", "_law_k"] : List Str).Nodup := by decide +kernel
  refine has_HE (N := ["_law_script", "_law_k"]) (ps := ["_law_script", "_law_k"]) (d := dF 76 "_law_cell_at" "_law_cell_at") (Z.d 56 rfl rfl rfl) (Z.glo 47 rfl) ⟨rfl, rfl, rfl, hN, rfl, by decide +kernel, by decide +kernel⟩ (fun H ds R ⟨_, _, _, _, _, h, _⟩ => by rw [h]; rfl) (fun _ _ _ _ _ _ us hl => match us, hl with | [_, _], _ => rfl) (fun f cd A outer s0 H E hr0 ds R hP Q q => ?_)
  obtain ⟨p, ns, e, kk, c, rfl, rfl⟩ := hP
  refine sd_if (td_lt (pdv 1) (pd_lenL Z.len (prv 0 c.l ((AtL.of_ints ns))))) (fun hw => ?_) (fun hw => sd_on ?_)
  · have hk : kk < ns.length := by
      rw [List.length_map] at hw
      have := of_decide_eq_true hw
      omega
    refine sd_ret (pd_abs Z.abs (pd_ixL (prv 0 c.l ((AtL.of_ints ns))) (pdv 1) ?_)) fun v H1 e1 a1 => q _ v H1 ⟨_, rfl, (c.b ns[kk] (List.getElem_mem hk)).abs⟩ e1 a1
    unfold atI
    rw [List.length_map, ixN_nat hk]
    show (ns.map D.i)[kk]? = _
    rw [List.getElem?_map, List.getElem?_eq_getElem hk]
    rfl
  · refine sd_retV (pv_callE (has_draw Z) hr0 (ad_cons (pd_add (pd_abs Z.abs (pd_sumL rfl Z.sum (prv 0 c.l (AtL.of_ints ns)))) (pd_mul pd_int (pdv 1) (.inl ⟨by decide, by decide⟩))) (ad_cons (pdv 1) (ad_cons pd_int ad_nil))) ⟨_, _, _, rfl, by decide⟩) fun d v H1 hd e1 a1 => ?_
    obtain ⟨r, rfl, r0, r1⟩ := hd _ _ _ rfl
    exact q _ v H1 ⟨r, rfl, BT.small (by omega) c.e0⟩ e1 a1
end
end G30
set_option Elab.async false
set_option linter.all false
set_option maxRecDepth 100000
set_option maxHeartbeats 4000000
set_option autoImplicit false
namespace G30
open PySem PySem.Spec PyProof.Rows L2 LamX StX SlX
section
variable {P : Program} {w : World} {K : PySem.W.Frag} {mg : Str → Option Value} {base : Heap} {T : List (Addr × Str)}
/-- an open promise of a new list of ints -/
def spHL (T : List (Addr × Str)) (B : Addr) (C : Hp → List D → Nat → Prop) : Sp := fun vs H Q _ => ∃ ds N, AtL B H ds vs ∧ Tabs T H ∧ C H ds N ∧ ∀ (p : Addr) (ns : List Int) H', Nw H p → Ex T H H' → H' p = some (.lst (ns.map V.int)) → ns.length ≤ N → Q (.ref p) H'
theorem has_HL {x : Str} {N ps : List Str} {k : Nat} {B : Addr} {d : He.DefD} {C : Hp → List D → Nat → Prop} (D0 : DefOk K mg x d) (g : mg x = some (.ref (He.fAd K d.at_))) (S : FnScope N ps d.scope) (hlen : ∀ H ds R, C H ds R → ds.length = ps.length)
    (hb : ∀ (kV doc pm : Value) (an : Option Addr) (cdv ct : Value) (us : List Value), us.length = ps.length → bindArgs (PySem.W.fnOf d.name d.qual d.params d.body d.scope .none kV doc pm an cdv ct) ⟨us, []⟩ = pure (ps.zip us))
    (body : ∀ f cd A outer s H E, Room k (bx P w K mg base N d f cd A outer s H E).A → ∀ ds N', C H ds N' → ∀ Q : VK, (∀ (p : Addr) (ns : List Int) H', Nw H p → Ex T H H' → H' p = some (.lst (ns.map V.int)) → ns.length ≤ N' → Q (.ref p) H') → SD (bx P w K mg base N d f cd A outer s H E) T B d.body (startG N ds) H { nx := fun _ H' => Q .non H', rt := Q }) :
    Has P w K mg base (k + 1) x (spHL T B C) := by
  obtain ⟨h1, h2⟩ := fnr_of (N := N) (ps := ps) (k := k) (P := P) (w := w) (base := base) (sp := spHL T B C) D0 S (fun vs H Q E ⟨ds, R, a, t, hR, _⟩ => by rw [a.len]; exact hlen H ds R hR) hb fun f cd A outer s H E hr vs Q ⟨ds, R, a, t, hR, q⟩ => body f cd A outer s H E hr ds R hR Q q _ H (Exb.refl _) (sl_start t a)
  exact ⟨_, g, h2, h1⟩
/-- e gives a new list of at most N ints -/
def PIL (X : Cx) (T : List (Addr × Str)) (B : Addr) (e : Expr) (Γ : List (Option D)) (H : Hp) (N : Nat) : Prop := ∀ σ H1, Ex T H H1 → Sl T B H1 σ Γ → ∀ Q : VK, (∀ (p : Addr) (ns : List Int) H2, Nw H1 p → Ex T H1 H2 → H2 p = some (.lst (ns.map V.int)) → ns.length ≤ N → Q (.ref p) H2) → wE X e σ H1 Q
theorem pil_call {X : Cx} {B : Addr} {Γ : List (Option D)} {H : Hp} {ds : List D} {e : Expr} {es : List Expr} {p pos : Pos} {j k N : Nat} {x : Str} {C : Hp → List D → Nat → Prop} (F : Has X.prog X.w X.K X.mg X.base j x (spHL T B C)) (hr : Room k X.A) (ha : AD X T B (e :: es) Γ H ds) (hP : ∀ H1, Ex T H H1 → C H1 ds N) (hjk : j ≤ k := by decide) (hg : Gl X x := by rfl) (hd : (x == ("__debug__" : Str)) = false := by decide)
    (he : starEach (e :: es) X.env = (false, eval e X.env) :: starEach es X.env := by rfl) (hpl : (backTo pos (starEach es X.env)).any (·.1) = false := by rfl) : PIL X T B (.Call (.Name x p) (e :: es) [] pos) Γ H N := fun σ H1 x1 s Q q => by
  obtain ⟨f, hm, hk, F⟩ := F
  exact PE.w (pe_callR F (hr.mono hjk) hk hg hm pass0 (paS X (e :: es)) hd he hpl) (ha σ H1 x1 s _ fun vs H2 e2 at2 => ⟨ds, N, at2, e2.tabs s.tabs, hP H2 (x1.trans e2), fun p ns H' hn e3 hp hl => q p ns H' (e2.free hn) (e2.trans e3) hp hl⟩)
theorem PV.imp {X : Cx} {B : Addr} {Γ : List (Option D)} {H : Hp} {e : Expr} {W W' : V → Hp → Prop} (h : PV X T B e Γ H W) (hw : ∀ v H2, W v H2 → W' v H2) : PV X T B e Γ H W' := fun σ H1 x s Q q => h σ H1 x s Q fun v H2 e2 w => q v H2 e2 (hw v H2 w)
def C_digits (K : PySem.W.Frag) (H : Hp) (ds : List D) (N : Nat) : Prop := ∃ p ns e, ∃ (k : Nat) (z : Int), Cells K H p ns e ∧ ds = [.r p, .i k, .i 120, .i z] ∧ 0 < z ∧ z < 1000000000 ∧ N = 120
theorem has_digits (Z : Zk K mg) : Has P w K mg base 3 "_law_digits" (spHL T (He.ga K "Book") (C_digits K)) := by
  have hN : (["_law_script", "_law_at", "_law_many", "_law_base", "_law_cell", "_law_found", "_law_left", "_law_turn", "_law_blend", "_law_more"] : List Str).Nodup := by decide +kernel
  refine has_HL (N := ["_law_script", "_law_at", "_law_many", "_law_base", "_law_cell", "_law_found", "_law_left", "_law_turn", "_law_blend", "_law_more"]) (ps := ["_law_script", "_law_at", "_law_many", "_law_base"]) (d := dF 77 "_law_digits" "_law_digits") (Z.d 57 rfl rfl rfl) (Z.glo 48 rfl) ⟨rfl, rfl, rfl, hN, rfl, by decide +kernel, by decide +kernel⟩ (fun H ds R ⟨_, _, _, _, _, _, h, _⟩ => by rw [h]; rfl) (fun _ _ _ _ _ _ us hl => match us, hl with | [_, _, _, _], _ => rfl) (fun f cd A outer s0 H E hr0 ds N hP Q q => ?_)
  obtain ⟨p, ns, e, kk, z, c, rfl, z0, z1, rfl⟩ := hP
  refine sd_parVL (i := 4) (j := 5) rfl hN rfl rfl (by decide) rfl rfl (pv_callHE (R := fun d => ∃ c, d = .i c ∧ BT e c) (has_cell_at Z) hr0 (ad_cons (pdv 0) (ad_cons (pdv 1) ad_nil)) (fun H1 x1 => ⟨p, ns, e, kk, c.ex x1, rfl, rfl⟩)) (pl_lst ad_nil (Nat.zero_le _)) rfl ?_
  rintro d l vs H1 ⟨cell, rfl, hcell⟩ hnl e1 hl hv
  have hv : vs = [] := hv
  subst hv
  have e0 := c.e0
  have e9 := c.e1
  refine sd_set (i := 6) hN rfl (.inl rfl) (pd_sub (pdv 4) (pd_pow pd_int pd_int ⟨by decide, by decide, by decide⟩)) ?_
  refine sd_forE (β := Int × List Int) (S := fun b => b = l) (is := [7]) (List.range 120) (fun (k : Nat) => D.i (0 + (k : Int))) (fun k b H' => H' l = some (.lst (b.2.map V.int)) ∧ b.2.length ≤ k) (fun k b => [some (.r p), some (.i kk), some (.i 120), some (.i z), some (.i cell), some (.r l), some (.i b.1), none, none, none]) (fun k a b => [some (.r p), some (.i kk), some (.i 120), some (.i z), some (.i cell), some (.r l), some (.i b.1), some (.i (0 + (a : Int))), none, none]) (_, [])
    PassesOwn.never rfl (ID.is (id_range1 Z.range (pdv 2) ⟨by decide, by decide⟩) rfl) (pg_name (i := 7) hN rfl (.inl rfl)) (fun k a b ha => gd_name) ⟨hl, Nat.le_refl _⟩ (gle (by repeat' first | exact True.intro | exact rfl | refine And.intro ?_ ?_)) (fun k b H1 H2 h x => ⟨Ex.lst x h.1, h.2⟩) ?_ ?_
  · rintro H2 e2 k a ⟨left, found⟩ H' ha eb ⟨hL, hlen⟩
    have hka : a = k ∧ k < 120 := by
      obtain ⟨h1, h2⟩ := List.getElem?_eq_some_iff.mp ha
      rw [List.getElem_range] at h2
      rw [List.length_range] at h1
      exact ⟨h2.symm, h1⟩
    obtain ⟨rfl, hk⟩ := hka
    have hsz : (found.map V.int).length < sizeLine := by
      rw [List.length_map]
      show found.length < 2 ^ 24
      have : found.length ≤ a := hlen
      omega
    have fin : ∀ (σ : L2.St) (Hn : Hp) (left' r : Int) (Γn : List (Option D)), Exb T (fun b => b = l) H2 Hn → Sl T (He.ga K "Book") Hn σ Γn → Hn l = some (.lst (found.map V.int ++ [.int r])) → (([some (.r p), some (.i kk), some (.i 120), some (.i z), some (.i cell), some (.r l), some (.i left'), none, none, none] : List (Option D)).length = Γn.length ∧ ∀ (i : Nat) (d : D), ([some (.r p), some (.i kk), some (.i 120), some (.i z), some (.i cell), some (.r l), some (.i left'), none, none, none] : List (Option D))[i]? = some (some d) → Γn[i]? = some (some d)) →
        turnToE T (He.ga K "Book") (fun b => b = l) H2 (fun k (b : Int × List Int) H' => H' l = some (.lst (b.2.map V.int)) ∧ b.2.length ≤ k) (fun k b => [some (.r p), some (.i kk), some (.i 120), some (.i z), some (.i cell), some (.r l), some (.i b.1), none, none, none]) (a + 1) σ Hn := fun σ Hn left' r Γn en sn hn hg =>
      ⟨(left', found ++ [r]), en, sn.gle hg, by rw [hn, List.map_append]; rfl, by
        have : found.length ≤ a := hlen
        rw [List.length_append, List.length_singleton]
        omega⟩
    refine sd_if (td_gt (pdv 6) pd_int) (fun hw => ?_) (fun hw => ?_)
    · refine sd_append (pdv 5) (d := .i (left % z)) (pd_mod (pd_int1 Z.int_ (pdv 6)) (pdv 3) z0) hL hsz ?_
      intro H3 v e3 a3 h3
      have a3 : v = .int (left % z) := a3
      subst a3
      refine sd_set (i := 6) hN rfl (.inl rfl) (pd_fdiv (pdv 6) (pdv 3) ⟨by omega, by omega⟩) ?_
      exact sd_nil fun σ H4 e4 s4 => wS_nil (fin σ H4 _ _ _ ((eb.trans e3).trans (Ex.to e4)) s4 (Ex.lst e4 h3) (gle (by repeat' first | exact True.intro | exact rfl | refine And.intro ?_ ?_)))
    · refine sd_setV (i := 8) (R := fun d => ∃ r : Int, d = .i r ∧ 0 ≤ r ∧ r < 999983) hN rfl (.inl rfl) (PV.imp (pv_callE (has_draw Z) hr0 (ad_cons (pd_mulX (pd_add (pdv 4) (pd_mul pd_int (pdv 7) (.inl ⟨by decide, by decide⟩))) (pd_add (pd_add (pdv 4) (pd_mul pd_int (pdv 7) (.inl ⟨by decide, by decide⟩))) pd_int) ?_) (ad_cons (pd_add (pd_mod (pdv 7) pd_int (by decide)) pd_int) (ad_cons pd_int ad_nil))) ⟨_, _, _, rfl, by decide⟩) ?_) ?_
      · have b1 : BT (e + 1) (cell + 977 * (0 + (a : Int))) := hcell.add (BT.small (by omega) e0)
        have b2 : BT (e + 1) (cell + 31 * (0 + (a : Int))) := hcell.add (BT.small (by omega) e0)
        have b3 : BT (e + 1 + 1) (cell + 31 * (0 + (a : Int)) + 5) := b2.add (BT.small (by decide) (by omega))
        exact mulx_ok b1 b3 (by omega)
      · rintro v H3 ⟨d, hd, ad⟩
        obtain ⟨r, rfl, r0, r1⟩ := hd _ _ _ rfl
        exact ⟨_, ⟨r, rfl, r0, r1⟩, ad⟩
      rintro d ⟨blend, rfl, _, _⟩
      refine sd_setV (i := 9) (R := fun d => ∃ r : Int, d = .i r ∧ 0 ≤ r ∧ r < 1000003) hN rfl (.inl rfl) (PV.imp (pv_callE (has_draw Z) hr0 (ad_cons (pd_add (pd_mulX (pd_add (pdv 4) (pd_mul pd_int (pdv 7) (.inl ⟨by decide, by decide⟩))) (pd_add (pdv 4) pd_int) ?_) (pd_mul pd_int (pdv 7) (.inl ⟨by decide, by decide⟩))) (ad_cons (pd_add (pd_mod (pdv 7) pd_int (by decide)) pd_int) (ad_cons pd_int ad_nil))) ⟨_, _, _, rfl, by decide⟩) ?_) ?_
      · have b2 : BT (e + 1) (cell + 31 * (0 + (a : Int))) := hcell.add (BT.small (by omega) e0)
        have b3 : BT (e + 1) (cell + 7) := hcell.add (BT.small (by decide) e0)
        exact mulx_ok b2 b3 (by omega)
      · rintro v H3 ⟨d, hd, ad⟩
        obtain ⟨r, rfl, r0, r1⟩ := hd _ _ _ rfl
        exact ⟨_, ⟨r, rfl, r0, r1⟩, ad⟩
      rintro d ⟨more, rfl, _, _⟩
      refine sd_append (pdv 5) (d := .i ((blend * 1000003 + more) % z)) (pd_mod (pd_int1 Z.int_ (pd_add (pd_mul (pdv 8) pd_int (.inr ⟨by decide, by decide⟩)) (pdv 9))) (pdv 3) z0) hL hsz ?_
      intro H3 v e3 a3 h3
      have a3 : v = .int ((blend * 1000003 + more) % z) := a3
      subst a3
      exact sd_nil fun σ H4 e4 s4 => wS_nil (fin σ H4 left _ _ ((eb.trans e3).trans (Ex.to e4)) s4 (Ex.lst e4 h3) (gle (by repeat' first | exact True.intro | exact rfl | refine And.intro ?_ ?_)))
  · rintro ⟨left, found⟩ H' eb ⟨hL, hlen⟩
    refine sd_ret (pdv 5) fun v H2 e2 a2 => ?_
    have a2 : v = .ref l := a2
    subst a2
    refine q l found H2 hnl ?_ (Ex.lst e2 hL) (by rw [List.length_range] at hlen; exact hlen)
    exact ((Ex.to e1).trans (eb.trans (Ex.to e2))).drop fun b hb => by rw [hb]; exact hnl
theorem pil_cat {X : Cx} {B : Addr} {Γ : List (Option D)} {H : Hp} {a b : Expr} {pos : Pos} {ms : List Int} {N : Nat} (ha : PK X T B a Γ H (ms.map D.i)) (hb : PIL X T B b Γ H N) (hz : ms.length + N ≤ sizeLine) : PIL X T B (.BinOp a .Add b pos) Γ H (ms.length + N) := fun σ H1 x s Q q =>
  PE.w (pe_op op_cat (peS X a) (peS X b)) (ha σ H1 x s _ fun p vs H2 e2 hp hv => hb σ H2 (x.trans e2) (s.mono e2) _ fun r ns H3 hn3 e3 hr hw => by
    have hv : vs = ms.map V.int := hv.ints
    subst hv
    refine ⟨p, r, _, _, rfl, rfl, Ex.lst e3 hp, hr, ?_, fun l hn => q l (ms ++ ns) _ ((e2.trans e3).free hn) ((e2.trans e3).trans (Ex.new hn)) (by rw [upd_same, List.map_append]) (by rw [List.length_append]; omega)⟩
    rw [List.length_map, List.length_map]
    omega)
theorem sd_setIL {X : Cx} {B : Addr} {Γ : List (Option D)} {H : Hp} {e : Expr} {rest : List Stmt} {F : Ends} {pos pos' : Pos} {x : Str} {i N : Nat} (hN : X.N.Nodup) (hi : X.N[i]? = some x) (hx : Loc X.env.scope x) (h : PIL X T B e Γ H N) (k : ∀ (p : Addr) (ns : List Int) H1, Nw H p → Ex T H H1 → H1 p = some (.lst (ns.map V.int)) → ns.length ≤ N → SD X T B rest (Γ.set i (some (.r p))) H1 F) (hs : swapsWith e (some (.Name x pos')) pos.line X.env = pure false := by rfl)
    (hf : X.fn x = true ∨ X.env.scope.names.lookup x = some .local := by first | exact .inl rfl | exact .inr rfl) : SD X T B (.Assign [.Name x pos'] e pos :: rest) Γ H F := fun σ H1 x s =>
  wS_cons (ps_set hN hi hx (peS X e) hs hf) (h σ H1 x s _ fun p ns H2 hn e2 hp hl => k p ns H2 (x.free hn) (x.trans e2) hp hl _ H2 (Exb.refl _) ((s.mono e2).set rfl))
def C_pool (K : PySem.W.Frag) (H : Hp) (ds : List D) (N : Nat) : Prop := ∃ p ns e, Cells K H p ns e ∧ ds = [.r p, sD [1009, 1013, 1000033, 1000037]] ∧ N = 480
theorem has_pool (Z : Zk K mg) : Has P w K mg base 4 "_law_pool" (spHL T (He.ga K "Book") (C_pool K)) := by
  have hN : (["_law_script", "_law_sizes", "_law_found", "_law_at", "_law_size"] : List Str).Nodup := by decide +kernel
  refine has_HL (N := ["_law_script", "_law_sizes", "_law_found", "_law_at", "_law_size"]) (ps := ["_law_script", "_law_sizes"]) (d := dF 79 "_law_pool" "_law_pool") (Z.d 59 rfl rfl rfl) (Z.glo 50 rfl) ⟨rfl, rfl, rfl, hN, rfl, by decide +kernel, by decide +kernel⟩ (fun H ds R ⟨_, _, _, _, h, _⟩ => by rw [h]; rfl) (fun _ _ _ _ _ _ us hl => match us, hl with | [_, _], _ => rfl) (fun f cd A outer s0 H E hr0 ds N hP Q q => ?_)
  obtain ⟨p, ns, e, c, rfl, rfl⟩ := hP
  refine sd_setL (i := 2) hN rfl (.inl rfl) (pl_lst ad_nil (Nat.zero_le _)) ?_
  intro l vs H1 hn1 e1 hl hv
  have hv : vs = [] := hv
  subst hv
  refine sd_forE (β := Addr × List Int) (S := Nob) (is := [3, 4]) (enI [1009, 1013, 1000033, 1000037]) (fun z => D.t [.i (z.2 : Nat), .i z.1]) (fun k b H' => Nw H b.1 ∧ H' b.1 = some (.lst (b.2.map V.int)) ∧ b.2.length ≤ 120 * k) (fun k b => [some (.r p), some (sD [1009, 1013, 1000033, 1000037]), some (.r b.1), none, none]) (fun k a b => [some (.r p), some (sD [1009, 1013, 1000033, 1000037]), some (.r b.1), some (.i (a.2 : Nat)), some (.i a.1)]) (l, [])
    PassesOwn.never rfl (ID.is (id_enumT Z.enumerate (pdv 1)) (en_ints _)) (pg_tup rfl (pgs_cons (pg_name (i := 3) hN rfl (.inl rfl)) (pgs_cons (pg_name (i := 4) hN rfl (.inl rfl)) pgs_nil))) (fun k a b ha => gd_tup2) ⟨hn1, hl, Nat.zero_le _⟩ (gle (by repeat' first | exact True.intro | exact rfl | refine And.intro ?_ ?_)) (fun k b H1 H2 h x => ⟨h.1, Ex.lst x h.2.1, h.2.2⟩) ?_ ?_
  · rintro H2 e2 k ⟨z, at_⟩ ⟨lo, found⟩ H' ha eb ⟨hnl, hL, hlen⟩
    have hz : 0 < z ∧ z < 1000000000 ∧ k < 4 := by
      match k, ha with
      | 0, ha => cases ha; exact ⟨by decide, by decide, by decide⟩
      | 1, ha => cases ha; exact ⟨by decide, by decide, by decide⟩
      | 2, ha => cases ha; exact ⟨by decide, by decide, by decide⟩
      | 3, ha => cases ha; exact ⟨by decide, by decide, by decide⟩
      | k + 4, ha => cases ha
    have hlen : found.length ≤ 120 * k := hlen
    have hk := hz.2.2
    have xH : Ex T H H' := e1.trans (e2.trans eb)
    refine sd_setIL (i := 2) hN rfl (.inl rfl) (pil_cat (pkv 2 hL (AtL.of_ints found)) (pil_call (has_digits Z) hr0 (ad_cons (pdv 0) (ad_cons (pdv 3) (ad_cons pd_int (ad_cons (pdv 4) ad_nil)))) (fun H3 e3 => ⟨p, ns, e, at_, z, c.ex (xH.trans e3), rfl, hz.1, hz.2.1, rfl⟩)) ?_) ?_
    · show _ ≤ 2 ^ 24
      omega
    · intro l' ns' H3 hn3 e3 h3 hl3
      exact sd_nil fun σ H4 e4 s4 => ⟨(l', ns'), eb.trans (e3.trans e4), s4.gle (gle (by repeat' first | exact True.intro | exact rfl | refine And.intro ?_ ?_)), xH.free hn3, Ex.lst e4 h3, by show ns'.length ≤ _; omega⟩
  · rintro ⟨lo, found⟩ H' eb ⟨hnl, hL, hlen⟩
    refine sd_ret (pdv 2) fun v H2 e2 a2 => ?_
    have a2 : v = .ref lo := a2
    subst a2
    exact q lo found H2 hnl (e1.trans (eb.trans e2)) (Ex.lst e2 hL) hlen
end
end G30
set_option Elab.async false
set_option linter.all false
set_option maxRecDepth 100000
set_option maxHeartbeats 4000000
set_option autoImplicit false
namespace G30
open PySem PySem.Spec PyProof.Rows L2 LamX StX SlX
section
variable {P : Program} {w : World} {K : PySem.W.Frag} {mg : Str → Option Value} {base : Heap} {T : List (Addr × Str)}
def R_ljoined (ds : List D) (d : D) : Prop := ∃ (m : Nat) (s t : List Int), m ≤ 5 ∧ OkS m s ∧ OkS m t ∧ ds = [sD s, sD t] ∧ d = sD (nrm m (s ++ t))
theorem map_append_ints (s t : List Int) : s.map D.i ++ t.map D.i = (s ++ t).map D.i := by rw [List.map_append]
theorem has__law_joined (Z : Zk K mg) : Has P w K mg base 1 "_law_joined" (spD T (He.ga K "Book") R_ljoined) := by
  have hN : (["_law_one", "_law_other", "_law_mark"] : List Str).Nodup := by decide +kernel
  refine has_D (N := ["_law_one", "_law_other", "_law_mark"]) (ps := ["_law_one", "_law_other"]) (d := dF 84 "_law_joined" "_law_joined") (Z.d 64 rfl rfl rfl) (Z.glo 55 rfl) ⟨rfl, rfl, rfl, hN, rfl, by decide +kernel, by decide +kernel⟩ ?hlen (fun _ _ _ _ _ _ us hl => match us, hl with | [_, _], _ => rfl) (fun f cd A outer s0 H E hr0 ds r hR Q q => ?body)
  case hlen => exact fun ds d ⟨_, _, _, _, _, _, h, _⟩ => by rw [h]; rfl
  obtain ⟨m, s, t, h5, hs, ht, rfl, rfl⟩ := hR
  have nd : (s ++ t.filter fun x => !decide (x ∈ s)).Nodup := List.nodup_append.mpr ⟨hs.nodup, (ht.filter _).nodup, fun x hx y hy e => by
    have := (List.mem_filter.mp hy).2
    rw [← e, decide_eq_true hx] at this
    cases this⟩
  refine sd_ret (pd_tupleL Z.tuple_ (PL.r (pl_sortedL (ns := s ++ t.filter fun x => !decide (x ∈ s)) Z.sorted (PL.r (PL.is (pl_cat (PL.tr (pl_listT Z.list_ (pdv 0))) (PL.tr (pl_lcI (own := [("_law_mark", 2)]) (is := [2]) (t) (D.i) _ _ _ rfl hN (id_tup (pdv 1)) (blk_ok (by kernel_rfl)) (fun _ _ _ _ _ => pg_name (i := 2) hN rfl (by first | exact .inl rfl | exact .inr rfl)) (fun a ha => (gd_name)) (by decide) (fun a ha s0 H0 C cl fp => (td_notin (pdv 2) (pdv 0))) (fun a ha hp s0 H0 C cl fp => (pdv 2)) ?_)) ?_) (map_append_ints _ _))) ?_ nd (nrm_ok m (s ++ t)).asc ?_))) q
  · have := ht.len
    show t.length < 2 ^ 24
    omega
  · have h1 := hs.len
    have h2 := (ht.filter fun x => !decide (x ∈ s)).len
    rw [List.length_map, List.length_map]
    show _ ≤ 2 ^ 24
    omega
  · have h1 := hs.len
    have h2 := (ht.filter fun x => !decide (x ∈ s)).len
    rw [List.length_append]
    omega
  · intro x
    rw [mem_nrm (fun x hx => (List.mem_append.mp hx).elim (fun z => hs.rg x z) (fun z => ht.rg x z)), List.mem_append, List.mem_append, List.mem_filter]
    constructor
    · rintro (h | h)
      · exact .inl h
      · by_cases q : x ∈ s
        · exact .inl q
        · exact .inr ⟨h, by rw [decide_eq_false q]; rfl⟩
    · rintro (h | h)
      · exact .inl h
      · exact .inr h.1
/-! choose -/
def chooseI (n k : Int) : Int := if decide (0 ≤ k) = true then (List.range k.toNat).foldl (fun (acc : Int) (j : Nat) => (acc * (n - (0 + (j : Int)))).fdiv ((0 + (j : Int)) + 1)) 1 else 0
def R_choose (ds : List D) (d : D) : Prop := ∃ n k : Int, 0 ≤ n ∧ n ≤ 5 ∧ -5 ≤ k ∧ k ≤ 5 ∧ ds = [.i n, .i k] ∧ d = .i (chooseI n k)
theorem has__law_choose (Z : Zk K mg) : Has P w K mg base 1 "_law_choose" (spD T (He.ga K "Book") R_choose) := by
  have hN : (["_law_many", "_law_some", "_law_found", "_law_turn"] : List Str).Nodup := by decide +kernel
  refine has_D (N := ["_law_many", "_law_some", "_law_found", "_law_turn"]) (ps := ["_law_many", "_law_some"]) (d := dF 86 "_law_choose" "_law_choose") (Z.d 66 rfl rfl rfl) (Z.glo 57 rfl) ⟨rfl, rfl, rfl, hN, rfl, by decide +kernel, by decide +kernel⟩ ?hlen (fun _ _ _ _ _ _ us hl => match us, hl with | [_, _], _ => rfl) (fun f cd A outer s0 H E hr0 ds r hR Q q => ?body)
  case hlen => exact fun ds d ⟨_, _, _, _, _, _, h, _⟩ => by rw [h]; rfl
  obtain ⟨n, kk, n0, n5, k0, k5, rfl, rfl⟩ := hR
  refine sd_set (i := 2) hN rfl (.inl rfl) pd_int ?_
  have st : ∀ j, (List.range (j + 1)).foldl (fun (acc : Int) (j : Nat) => (acc * (n - (0 + (j : Int)))).fdiv ((0 + (j : Int)) + 1)) 1 = (((List.range j).foldl (fun (acc : Int) (j : Nat) => (acc * (n - (0 + (j : Int)))).fdiv ((0 + (j : Int)) + 1)) 1) * (n - (0 + (j : Int)))).fdiv ((0 + (j : Int)) + 1) := fun j => by
    rw [List.range_succ, List.foldl_append]
    rfl
  refine sd_for (S := Nob) (is := [3]) (List.range kk.toNat) (fun (k : Nat) => D.i (0 + (k : Int))) (fun _ _ => True) (fun j => [some (.i n), some (.i kk), some (.i ((List.range j).foldl (fun (acc : Int) (j : Nat) => (acc * (n - (0 + (j : Int)))).fdiv ((0 + (j : Int)) + 1)) 1)), none]) (fun j a => [some (.i n), some (.i kk), some (.i ((List.range j).foldl (fun (acc : Int) (j : Nat) => (acc * (n - (0 + (j : Int)))).fdiv ((0 + (j : Int)) + 1)) 1)), some (.i (0 + (a : Int)))]) PassesOwn.never rfl
    (ID.is (id_range1 Z.range (pdv 1) ⟨by omega, by omega⟩) rfl) (pg_name (i := 3) hN rfl (.inl rfl)) (fun k s _ => gd_name) (fun _ _ => True.intro) (gle (by repeat' first | exact True.intro | exact rfl | refine And.intro ?_ ?_)) (fun _ _ _ _ _ => True.intro) ?_ ?_
  · rintro H2 e2 j a H' ha eb _
    obtain ⟨h1, h2⟩ := List.getElem?_eq_some_iff.mp ha
    rw [List.getElem_range] at h2
    rw [List.length_range] at h1
    subst h2
    refine sd_set (i := 2) hN rfl (.inl rfl) (pd_fdiv (pd_mul (pdv 2) (pd_sub (pdv 0) (pdv 3)) (.inr ⟨by omega, by omega⟩)) (pd_add (pdv 3) pd_int) ⟨by omega, by omega⟩) ?_
    refine sd_nil fun σ H4 e4 s4 => ⟨eb.trans e4, ?_, True.intro⟩
    show Sl T (He.ga K "Book") H4 σ [some (.i n), some (.i kk), some (.i ((List.range (j + 1)).foldl _ 1)), none]
    rw [st]
    exact s4.gle (gle (by repeat' first | exact True.intro | exact rfl | refine And.intro ?_ ?_))
  · intro H' eb _
    rw [List.length_range]
    exact sd_ret (PD.is (pd_ite (td_ge (pdv 1) pd_int) (pdv 2) pd_int) rfl) fun v H3 e3 a3 => q v H3 (eb.trans e3) a3
end
end G30
set_option Elab.async false
set_option linter.all false
set_option maxRecDepth 100000
set_option maxHeartbeats 4000000
set_option autoImplicit false
namespace G30
open PySem PySem.Spec PyProof.Rows L2 LamX StX SlX
section
variable {P : Program} {w : World} {K : PySem.W.Frag} {mg : Str → Option Value} {base : Heap} {T : List (Addr × Str)}
/-! counted -/
def cntL (m : Nat) (ss : List (List Int)) : List Int := (List.range (m + 1)).map fun (k : Nat) => ((ss.filter fun s => decide ((s.length : Int) = 0 + (k : Int))).map fun _ => (1 : Int)).sum
def R_counted (K : PySem.W.Frag) (B : Addr) (H : Hp) (ds : List D) (d : D) : Prop := ∃ (m : Nat) (ss : List (List Int)) (p : Addr) (vs : List V), m ≤ 5 ∧ SqL K H p vs ∧ AtL B H (ss.map sD) vs ∧ ss.length ≤ 1000 ∧ ds = [.i m, .r p] ∧ d = sD (cntL m ss)
theorem has__law_counted (Z : Zk K mg) : Has P w K mg base 1 "_law_counted" (spDH T (He.ga K "Book") (R_counted K (He.ga K "Book"))) := by
  have hN : (["_law_marks", "_law_sets_here", "_law_one", "_law_size"] : List Str).Nodup := by decide +kernel
  refine has_DH (N := ["_law_marks", "_law_sets_here", "_law_one", "_law_size"]) (ps := ["_law_marks", "_law_sets_here"]) (d := dF 87 "_law_counted" "_law_counted") (Z.d 67 rfl rfl rfl) (Z.glo 58 rfl) ⟨rfl, rfl, rfl, hN, rfl, by decide +kernel, by decide +kernel⟩ ?hlen (fun _ _ _ _ _ _ us hl => match us, hl with | [_, _], _ => rfl) (fun f cd A outer s0 H E hr0 ds r hR Q q => ?body)
  case hlen => exact fun H ds d ⟨_, _, _, _, _, _, _, _, h, _⟩ => by rw [h]; rfl
  obtain ⟨m, ss, p, vs, h5, hl, hv, hz, rfl, rfl⟩ := hR
  refine sd_ret (PD.is (pd_tupleL Z.tuple_ (PL.r (pl_lc (own := [("_law_size", 3)]) (is := [3]) (List.range (m + 1)) (fun (k : Nat) => D.i (0 + (k : Int))) _ _ rfl hN (ID.is (id_range1 Z.range (pd_add (pdv 0) pd_int) ⟨by omega, by omega⟩) (by rw [show ((m : Int) + 1).toNat = m + 1 by omega]; rfl)) (blk_ok (by kernel_rfl)) (fun _ _ _ _ _ => pg_name (i := 3) hN rfl (by first | exact .inl rfl | exact .inr rfl)) (fun a ha => (gd_name)) (by decide) (fun a ha s0 H0 C cl fp => (pd_sumM rfl Z.sum (PL.r (pl_lcI (own := [("_law_one", 2)]) (is := [2]) (ss) (sD) _ _ _ rfl hN (id_listR (prv 1 hl hv)) (blk_ok (by kernel_rfl)) (fun _ _ _ _ _ => pg_name (i := 2) hN rfl (by first | exact .inl rfl | exact .inr rfl)) (fun a ha => (gd_name)) (by decide) (fun a ha s0 H0 C cl fp => (td_eqI (pd_lenT Z.len (pdv 2)) (pdv 3))) (fun a ha hp s0 H0 C cl fp => pd_int) ?_)))) ?_))) ?_) q
  · show ss.length < 2 ^ 24
    omega
  · rw [List.length_range]
    show m + 1 < 2 ^ 24
    omega
  · show D.t _ = D.t _
    unfold cntL
    rw [List.map_map]
    congr 2
    funext k
    show D.i _ = D.i _
    congr 5
    funext s
    rw [List.length_map]
end
end G30
set_option Elab.async false
set_option linter.all false
set_option maxRecDepth 100000
set_option maxHeartbeats 4000000
set_option autoImplicit false
namespace G30
open PySem PySem.Spec PyProof.Rows L2 LamX StX SlX
section
variable {P : Program} {w : World} {K : PySem.W.Frag} {mg : Str → Option Value} {base : Heap}
theorem zip_ints (s t : List Int) : (((s.map D.i).zip (t.map D.i)).map fun z => D.t [z.1, z.2]) = (s.zip t).map fun z => D.t [.i z.1, .i z.2] := by
  rw [List.zip_map, List.map_map]
  rfl
noncomputable def hereM (m : Nat) (rs : Rules) (g : List Int) : List (List Int) := (setsOf m).filter fun s => within g (clo m rs s)
def wideM (m : Nat) (g : List Int) : List Int := nrm m (g ++ [0])
noncomputable def closRight (m : Nat) (rs : Rules) (g : List Int) : Bool :=
  if (((counts m rs (wideM m g)).zip (counts m rs g)).any fun z => decide (z.2 < z.1)) = true then false else decide (counts m rs g = cntL m (hereM m rs g)) && decide (cntL m (hereM m rs g) = counts m rs (clo m rs g))
def R_book_goal (f : Nat → Rules → List Int → Bool) (ds : List D) (d : D) : Prop := ∃ (m : Nat) (rs : Rules) (g : List Int), OkR m rs ∧ OkS m g ∧ ds = [bkD m rs, sD g] ∧ d = .b (f m rs g)
theorem has__law_closures_right (Z : Zk K mg) (TB : TbF K mg base) : Has P w K mg base 7 "_law_closures_right" (spD (tabsT K) (He.ga K "Book") (R_book_goal closRight)) := by
  have hN : (["_law_book", "_law_goal", "_law_sets_here", "_law_one", "_law_wide", "_law_more", "_law_many"] : List Str).Nodup := by decide +kernel
  refine has_D (N := ["_law_book", "_law_goal", "_law_sets_here", "_law_one", "_law_wide", "_law_more", "_law_many"]) (ps := ["_law_book", "_law_goal"]) (d := dF 93 "_law_closures_right" "_law_closures_right") (Z.d 73 rfl rfl rfl) (Z.glo 64 rfl) ⟨rfl, rfl, rfl, hN, rfl, by decide +kernel, by decide +kernel⟩ ?hlen (fun _ _ _ _ _ _ us hl => match us, hl with | [_, _], _ => rfl) (fun f cd A outer s0 H E hr0 ds r hR Q q => ?body)
  case hlen => exact fun ds d ⟨_, _, _, _, _, h, _⟩ => by rw [h]; rfl
  obtain ⟨m, rs, g, ho, hg, rfl, rfl⟩ := hR
  have h5 := ho.m5
  have z0 : OkS m [0] := one_ok (by decide) (by have := ho.m0; omega)
  refine sd_setLcI (i := 2) (own := [("_law_one", 3)]) (is := [3]) (setsOf m) (sD) _ _ _ rfl hN rfl rfl (sw_true rfl rfl rfl (by decide +kernel)) (id_listR (PL.r (pl_callH (has__law_sets Z TB) hr0 (ad_cons (pd_bkM Z.bk (pdv 0)) ad_nil) (fun _ _ => ⟨m, h5, rfl, rfl⟩)))) (blk_ok (by kernel_rfl)) (fun _ _ _ _ _ => pg_name (i := 3) hN rfl (by first | exact .inl rfl | exact .inr rfl)) (fun a ha => (gd_name)) (by decide) (fun a ha s0 H0 C cl fp => (td_val (pd_call (has__law_within Z) hr0 (ad_cons (pdv 1) (ad_cons (pd_methB Z.bk Z.m_full (fnr_full Z) hr0 (by decide) (pdv 0) ⟨_, _, rfl⟩ (ad_cons (pdv 3) ad_nil) ⟨_, _, _, ho, ?_, rfl, rfl⟩) ad_nil)) ⟨_, _, ?_, rfl, rfl⟩))) (fun a ha hp s0 H0 C cl fp => (pdv 3)) ?_ ?_
  · exact mem_setsOf ha
  · exact hg.sz h5
  · exact setsOf_sz h5
  intro pr vr H1 hn1 e1 hpr hvr
  have hvr : AtL (He.ga K "Book") H1 ((hereM m rs g).map sD) vr := hvr
  refine sd_set (i := 4) hN rfl (.inl rfl) (pd_call (has__law_joined Z) hr0 (ad_cons (pdv 1) (ad_cons (pd_tup (ad_cons pd_int ad_nil) ?_) ad_nil)) ⟨m, _, [0], h5, hg, z0, rfl, rfl⟩) ?_
  · show 1 ≤ 2 ^ 24
    decide
  have hw : OkS m (wideM m g) := nrm_ok m _
  have zl : ((counts m rs (wideM m g)).zip (counts m rs g)).length < sizeLine := by
    rw [List.length_zip, counts_len, counts_len]
    show _ < 2 ^ 24
    omega
  have fin : ∀ (b : Bool) (v : V) (H2 : Hp), Ex (tabsT K) H1 H2 → At (He.ga K "Book") H2 (.b b) v → closRight m rs g = b → Q v H2 := fun b v H2 e2 a2 eb => q v H2 (e1.trans e2) (eb ▸ a2)
  refine sd_if (td_val (pd_anyM rfl Z.any (PL.r (pl_lc (own := [("_law_more", 5), ("_law_many", 6)]) (is := [5, 6]) ((counts m rs (wideM m g)).zip (counts m rs g)) (fun (z : Int × Int) => D.t [.i z.1, .i z.2]) _ _ rfl hN (ID.is (id_zipT Z.zip (pd_call (has_counts Z TB) hr0 (ad_cons (pdv 0) (ad_cons (pdv 4) ad_nil)) ⟨_, _, _, ho, hw, rfl, rfl⟩) (pd_call (has_counts Z TB) hr0 (ad_cons (pdv 0) (ad_cons (pdv 1) ad_nil)) ⟨_, _, _, ho, hg, rfl, rfl⟩)) (zip_ints _ _)) (blk_ok (by kernel_rfl)) (fun _ _ _ _ _ => pg_tup rfl (pgs_cons (pg_name (i := 5) hN rfl (by first | exact .inl rfl | exact .inr rfl)) (pgs_cons (pg_name (i := 6) hN rfl (by first | exact .inl rfl | exact .inr rfl)) pgs_nil))) (fun a ha => (gd_tup2)) (by decide) (fun a ha s0 H0 C cl fp => (pd_gt (pdv 5) (pdv 6))) ?_)))) (fun hw' => ?_) (fun hw' => sd_on ?_)
  · exact zl
  · exact sd_ret pd_bl fun v H2 e2 a2 => fin _ v H2 e2 a2 (by unfold closRight; rw [if_pos hw'])
  · refine sd_ret (pd_chain (op_eqD (room_cmp hr0)) (op_eqD (room_cmp hr0)) (pd_call (has_counts Z TB) hr0 (ad_cons (pdv 0) (ad_cons (pdv 1) ad_nil)) ⟨_, _, _, ho, hg, rfl, rfl⟩) (pd_callH (d := sD (cntL m (hereM m rs g))) (has__law_counted Z) hr0 (ad_cons (pd_bkM Z.bk (pdv 0)) (ad_cons (pdv 2) ad_nil)) (fun H3 e3 => ⟨m, hereM m rs g, pr, vr, h5, SqL.of (Ex.lst e3 hpr), hvr.mono e3, ?_, rfl, rfl⟩)) (fun _ => pd_call (has_counts Z TB) hr0 (ad_cons (pdv 0) (ad_cons (pd_methB Z.bk Z.m_full (fnr_full Z) hr0 (by decide) (pdv 0) ⟨_, _, rfl⟩ (ad_cons (pdv 1) ad_nil) ⟨_, _, _, ho, ?_, rfl, rfl⟩) ad_nil)) ⟨_, _, _, ho, clo_ok m rs g, rfl, rfl⟩) rd_eqS (fun _ => rd_eqS)) ?_
    · have h1 := List.length_filter_le (fun s => within g (clo m rs s)) (setsOf m)
      have h2 := len_setsOf m
      have h3 := two_pow_le (Nat.le_refl m) h5
      show ((setsOf m).filter fun s => within g (clo m rs s)).length ≤ 1000
      omega
    · exact hg
    · intro v H2 e2 a2
      exact fin _ v H2 e2 a2 (by unfold closRight; rw [if_neg (by rw [hw']; exact Bool.false_ne_true)])
end
end G30
set_option Elab.async false
set_option linter.all false
set_option maxRecDepth 100000
set_option maxHeartbeats 4000000
set_option autoImplicit false
namespace G30
open PySem PySem.Spec PyProof.Rows L2 LamX StX SlX
section
variable {P : Program} {w : World} {K : PySem.W.Frag} {mg : Str → Option Value} {base : Heap}
noncomputable def haveB (m : Nat) (rs : Rules) (k : Int) (s : List Int) : Bool := decide (k ∈ s) || (waysTo m rs k).any fun t => within t s
noncomputable def haveM (m : Nat) (rs : Rules) (k : Int) : List (List Int) := (setsOf m).filter (haveB m rs k)
/-- a book, the promise: true where the plain law c holds -/
def R_book_ok (c : Nat → Rules → Prop) (ds : List D) (d : D) : Prop := ∃ (m : Nat) (rs : Rules), OkR m rs ∧ c m rs ∧ ds = [bkD m rs] ∧ d = .b true
def R_goal_ok (c : Nat → Rules → List Int → Prop) (ds : List D) (d : D) : Prop := ∃ (m : Nat) (rs : Rules) (g : List Int), OkR m rs ∧ OkS m g ∧ c m rs g ∧ ds = [bkD m rs, sD g] ∧ d = .b true
def WaysOk (m : Nat) (rs : Rules) : Prop := ∀ k ∈ mks m, counts m rs [k] = cntL m (haveM m rs k)
theorem waysTo_sz {m : Nat} {rs : Rules} {k : Int} (h5 : m ≤ 5) : (waysTo m rs k).length < sizeLine := Nat.lt_of_le_of_lt (Nat.le_trans (List.length_filter_le _ _) (List.length_filter_le _ _)) (setsOf_sz h5)
theorem waysTo_ok {m : Nat} {rs : Rules} {k : Int} {s : List Int} (h : s ∈ waysTo m rs k) : OkS m s := mem_setsOf (List.mem_filter.mp (List.mem_filter.mp h).1).1
theorem has__law_ways_right (Z : Zk K mg) (TB : TbF K mg base) : Has P w K mg base 7 "_law_ways_right" (spD (tabsT K) (He.ga K "Book") (R_book_ok WaysOk)) := by
  have hN : (["_law_book", "_law_mark", "_law_some", "_law_sets_here", "_law_one", "_law_way"] : List Str).Nodup := by decide +kernel
  refine has_D (N := ["_law_book", "_law_mark", "_law_some", "_law_sets_here", "_law_one", "_law_way"]) (ps := ["_law_book"]) (d := dF 89 "_law_ways_right" "_law_ways_right") (Z.d 69 rfl rfl rfl) (Z.glo 60 rfl) ⟨rfl, rfl, rfl, hN, rfl, by decide +kernel, by decide +kernel⟩ ?hlen (fun _ _ _ _ _ _ us hl => match us, hl with | [_], _ => rfl) (fun f cd A outer s0 H E hr0 ds r hR Q q => ?body)
  case hlen => exact fun ds d ⟨_, _, _, _, h, _⟩ => by rw [h]; rfl
  obtain ⟨m, rs, ho, hc, rfl, rfl⟩ := hR
  have h5 := ho.m5
  refine sd_for (S := Nob) (is := [1]) (mks m) D.i (fun _ _ => True) (fun _ => [some (bkD m rs), none, none, none, none, none]) (fun _ k => [some (bkD m rs), some (.i k), none, none, none, none]) PassesOwn.never rfl
    (ID.is (id_range1 Z.range (pd_bkM Z.bk (pdv 0)) ⟨by omega, by omega⟩) (rg_mks m)) (pg_name (i := 1) hN rfl (by first | exact .inl rfl | exact .inr rfl)) (fun k s _ => gd_name) (fun _ _ => True.intro) (gle (by repeat' first | exact True.intro | exact rfl | refine And.intro ?_ ?_)) (fun _ _ _ _ _ => True.intro) ?_ ?_
  · rintro H2 e2 j mk H' hmk eb _
    have hm : mk ∈ mks m := List.mem_of_getElem? hmk
    have hk := mem_mks.mp hm
    refine sd_setL (i := 2) hN rfl (by first | exact .inl rfl | exact .inr rfl) (pl_call (has_ways Z TB) hr0 (ad_cons (pdv 0) (ad_cons (pdv 1) ad_nil)) ⟨_, _, _, ho, hk.1, hk.2, rfl, rfl⟩) ?_
    intro pw vw H3 hn3 e3 hpw hvw
    refine sd_setL (i := 3) hN rfl (by first | exact .inl rfl | exact .inr rfl) (pl_lst ad_nil ?_) ?_
    · exact Nat.zero_le _
    intro p vs H4 hn4 e4 hp hv
    have hpw4 := Ex.lst e4 hpw
    have hvw4 := hvw.mono e4
    have hne : pw ≠ p := fun z => by
      obtain ⟨ps, y⟩ := hn4 _ (z ▸ hpw)
      cases y
    refine sd_for (S := fun b => b = p) (is := [4]) (setsOf m) sD (fun j H' => H' pw = some (.lst vw) ∧ AtL (He.ga K "Book") H' ((waysTo m rs mk).map sD) vw ∧ ∃ vs, H' p = some (.lst vs) ∧ AtL (He.ga K "Book") H' ((((setsOf m).take j).filter (haveB m rs mk)).map sD) vs)
      (fun _ => [some (bkD m rs), some (.i mk), some (.r pw), some (.r p), none, none]) (fun _ s => [some (bkD m rs), some (.i mk), some (.r pw), some (.r p), some (sD s), none]) PassesOwn.never rfl
      (id_list (pl_callH (has__law_sets Z TB) hr0 (ad_cons (pd_bkM Z.bk (pdv 0)) ad_nil) (fun _ _ => ⟨m, h5, rfl, rfl⟩)) (fun b hb => by rw [hb]; exact nw_not hp)) (pg_name (i := 4) hN rfl (by first | exact .inl rfl | exact .inr rfl)) (fun k s _ => gd_name) (fun H2 e => ⟨Ex.lst e hpw4, hvw4.mono e, vs, Ex.lst e hp, hv.mono e⟩) (gle (by repeat' first | exact True.intro | exact rfl | refine And.intro ?_ ?_)) (fun k H2 H3 ⟨a1, a2, vs, h, a⟩ e => ⟨Ex.lst e a1, a2.mono e, vs, Ex.lst e h, a.mono e⟩) ?_ ?_
    · rintro H5 e5 k s H6 hs eb6 ⟨hw6, aw6, vs2, h1, a1⟩
      have hsm : s ∈ setsOf m := List.mem_of_getElem? hs
      have os := mem_setsOf hsm
      have tk : (setsOf m).take (k + 1) = (setsOf m).take k ++ [s] := by rw [List.take_add_one, hs]; rfl
      refine sd_if (l := haveB m rs mk s) (WD.t (wd_or (td_in (pdv 1) (pdv 4)) (fun _ => (wd_or1 (td_val (pd_anyM rfl Z.any (PL.r (pl_lc (own := [("_law_way", 5)]) (is := [5]) (waysTo m rs mk) (sD) _ _ rfl hN (id_listR (prv 2 (SqL.of hw6) aw6)) (blk_ok (by kernel_rfl)) (fun _ _ _ _ _ => pg_name (i := 5) hN rfl (by first | exact .inl rfl | exact .inr rfl)) (fun a ha => (gd_name)) (by decide) (fun a ha s0 H0 C cl fp => (pd_call (has__law_within Z) hr0 (ad_cons (pdv 5) (ad_cons (pdv 4) ad_nil)) ⟨_, _, ?_, rfl, rfl⟩)) ?_)))))))) (fun hw => ?_) (fun hw => ?_)
      · exact (waysTo_ok ha).sz h5
      · exact waysTo_sz h5
      · refine sd_append (pdv 3) (pdv 4) h1 ?_ ?_
        · have l1 := a1.len
          rw [List.length_map] at l1
          have l2 := List.length_filter_le (haveB m rs mk) ((setsOf m).take k)
          rw [List.length_take] at l2
          have l3 := setsOf_sz h5
          omega
        intro H7 v e7 at7 h7
        have hw7 : H7 pw = some (.lst vw) := e7.keep pw _ hw6 hne (fun ps z => by cases z)
        refine sd_nil fun σ H8 e8 s8 => wS_nil ⟨(eb6.trans e7).trans (Ex.to e8), s8.gle (gle (by repeat' first | exact True.intro | exact rfl | refine And.intro ?_ ?_)), Ex.lst e8 hw7, (aw6.mono e7).mono e8, _, Ex.lst e8 h7, ?_⟩
        rw [tk, List.filter_append, List.map_append]
        refine AtL.app ((a1.mono e7).mono e8) ?_
        rw [List.filter_cons, if_pos hw, List.filter_nil]
        exact AtL.one (at7.mono e8)
      · refine sd_nil fun σ H8 e8 s8 => wS_nil ⟨eb6.trans (Ex.to e8), s8.gle (gle (by repeat' first | exact True.intro | exact rfl | refine And.intro ?_ ?_)), Ex.lst e8 hw6, aw6.mono e8, _, Ex.lst e8 h1, ?_⟩
        rw [tk, List.filter_append, List.map_append]
        rw [List.filter_cons, if_neg (by rw [hw]; exact Bool.false_ne_true), List.filter_nil, List.map_nil, List.append_nil]
        exact a1.mono e8
    · rintro H5 eb5 ⟨_, _, vs2, h1, a1⟩
      rw [List.take_length] at a1
      have o1 : OkS m [mk] := one_ok hk.1 hk.2
      refine sd_skip (TD.is (td_neS hr0 (pd_call (has_counts Z TB) hr0 (ad_cons (pdv 0) (ad_cons (PD.is (pd_tup (ad_cons (pdv 1) ad_nil) (by show 1 ≤ 2 ^ 24; decide)) (rfl : D.t [.i mk] = sD [mk])) ad_nil)) ⟨_, _, _, ho, o1, rfl, rfl⟩) (pd_callH (has__law_counted Z) hr0 (ad_cons (pd_bkM Z.bk (pdv 0)) (ad_cons (pdv 3) ad_nil)) (fun H3 e3 => ⟨m, haveM m rs mk, p, vs2, h5, SqL.of (Ex.lst e3 h1), a1.mono e3, ?_, rfl, rfl⟩))) ?_) ?_
      · have h1 := List.length_filter_le (haveB m rs mk) (setsOf m)
        have h2 := len_setsOf m
        have h3 := two_pow_le (Nat.le_refl m) h5
        show ((setsOf m).filter (haveB m rs mk)).length ≤ 1000
        omega
      · rw [decide_eq_true (hc mk hm)]
        rfl
      · exact sd_nil fun σ H8 e8 s8 => ⟨eb.trans (e3.trans (((Ex.to e4).trans (eb5.trans (Ex.to e8))).drop fun b hb => by rw [hb]; exact hn4)), s8.gle (gle (by repeat' first | exact True.intro | exact rfl | refine And.intro ?_ ?_)), True.intro⟩
  · intro H' eb _
    exact sd_ret pd_bl fun v H2 e2 a2 => q v H2 (eb.trans e2) a2
end
end G30
set_option Elab.async false
set_option linter.all false
set_option maxRecDepth 100000
set_option maxHeartbeats 4000000
set_option autoImplicit false
namespace G30
open PySem PySem.Spec PyProof.Rows L2 LamX StX SlX
section
variable {P : Program} {w : World} {K : PySem.W.Frag} {mg : Str → Option Value} {base : Heap}
/-! ### the spans are right -/
theorem spansM_ne (m : Nat) (rs : Rules) (g : List Int) : ∀ n lo hi, spansM m rs g n lo hi ≠ []
  | 0, _, _ => by unfold spansM; exact List.cons_ne_nil _ _
  | n + 1, lo, hi => by
    unfold spansM
    split
    · exact List.cons_ne_nil _ _
    · split
      · intro h
        exact spansM_ne m rs g n _ _ (List.append_eq_nil_iff.mp h).1
      · exact List.cons_ne_nil _ _
structure SpOk (m : Nat) (z : List Int × List Int × Bool) : Prop where
  lo : OkS m z.1
  hi : OkS m z.2.1
  sub : ∀ x ∈ z.1, x ∈ z.2.1
theorem headD_mem {l : List Int} (h : l ≠ []) : l.headD 0 ∈ l := by
  cases l with
  | nil => exact absurd rfl h
  | cons a r => exact List.mem_cons_self
theorem spansM_ok (m : Nat) (rs : Rules) (g : List Int) : ∀ n (lo hi : List Int), OkS m lo → OkS m hi → (∀ x ∈ lo, x ∈ hi) → ∀ z ∈ spansM m rs g n lo hi, SpOk m z
  | 0, lo, hi, olo, ohi, osub, z, hz => by
    unfold spansM at hz
    rw [List.mem_singleton.mp hz]
    exact ⟨olo, ohi, osub⟩
  | n + 1, lo, hi, olo, ohi, osub, z, hz => by
    unfold spansM at hz
    split at hz
    · rw [List.mem_singleton.mp hz]
      exact ⟨olo, ohi, osub⟩
    · split at hz
      · by_cases he : (hi.filter fun x => !decide (x ∈ lo)) = []
        · next h1 h2 =>
          exfalso
          have e : lo = hi := asc_uniq olo.asc ohi.asc fun x => ⟨osub x, fun hx => by
            by_cases q : x ∈ lo
            · exact q
            · have : x ∈ hi.filter fun x => !decide (x ∈ lo) := List.mem_filter.mpr ⟨hx, by rw [decide_eq_false q]; rfl⟩
              rw [he] at this
              cases this⟩
          rw [e] at h1
          exact h1 h2
        · have hk := headD_mem he
          generalize (hi.filter fun x => !decide (x ∈ lo)).headD 0 = k at hz hk
          have hk1 := (List.mem_filter.mp hk).1
          have hk2 : k ∉ lo := fun q => by
            have := (List.mem_filter.mp hk).2
            rw [decide_eq_true q] at this
            cases this
          have rg := ohi.rg k hk1
          rcases List.mem_append.mp hz with hz | hz
          · refine spansM_ok m rs g n (nrm m (lo ++ [k])) hi (nrm_ok m _) ohi (fun x hx => ?_) z hz
            have hx := (mem_nrm (snoc_rg olo rg.1 rg.2)).mp hx
            rcases List.mem_append.mp hx with hx | hx
            · exact osub x hx
            · rw [List.mem_singleton.mp hx]; exact hk1
          · refine spansM_ok m rs g n lo (hi.filter fun x => !decide (x = k)) olo (ohi.filter _) (fun x hx => List.mem_filter.mpr ⟨osub x hx, ?_⟩) z hz
            rw [decide_eq_false (fun e => hk2 (by rw [← e]; exact hx))]
            rfl
      · rw [List.mem_singleton.mp hz]
        exact ⟨olo, ohi, osub⟩
/-- for .. in spans(..).rows, beside lists of ints of ours -/
theorem id_spans {X : Cx} {T : List (Addr × Str)} {C : Addr} {B : Addr} {Γ : List (Option D)} {H : Hp} {S : Addr → Prop} {tg e : Expr} {es : List Expr} {p pos pos2 : Pos} {j k m : Nat} {rs : Rules} {g : List Int} {x : Str} (F : Has X.prog X.w X.K X.mg X.base j x (spSpans T B C)) (cl : Cls X.K C) (na : NoAttr X.K C "rows") (hr : Room k X.A) (ho : OkR m rs) (hg' : OkS m g) (ha : AD X T B (e :: es) Γ H [bkD m rs, sD g]) (hS : ∀ b, S b → ∃ ns : List Int, H b = some (.lst (ns.map V.int))) (hjk : j ≤ k := by decide) (hg : Gl X x := by rfl) (hd : (x == ("__debug__" : Str)) = false := by decide)
    (he : starEach (e :: es) X.env = (false, eval e X.env) :: starEach es X.env := by rfl) (hpl : (backTo pos (starEach es X.env)).any (·.1) = false := by rfl) (hb : attributeBase (.Call (.Name x p) (e :: es) [] pos) "rows" X.env (eval (.Call (.Name x p) (e :: es) [] pos) X.env) = eval (.Call (.Name x p) (e :: es) [] pos) X.env := by rfl) :
    ID X T B S tg (.Attribute (.Call (.Name x p) (e :: es) [] pos) "rows" pos2) Γ H ((spansM m rs g m [] (mks m)).map spD3) := fun σ H1 x1 s R q => by
  obtain ⟨f, hm, hk, F⟩ := F
  refine PI.w (pi_list (pe_fld (pe_callR F (hr.mono hjk) hk hg hm pass0 (paS X (e :: es)) hd he hpl) hb)) (ha σ H1 x1 s _ fun vs H2 e2 at2 => ⟨m, rs, g, ho, hg', at2, e2.tabs s.tabs, fun H3 pi l ys e3 ⟨dx, hi⟩ hl hv => ⟨pi, C, dx, _, .ref l, rfl, hi, cl, na, rfl, l, rfl, ⟨ys, SqL.of hl⟩, q _ H3 (e2.trans e3) fun H' e4 => ?_⟩⟩)
  have nS : ¬ S l := fun z => by
    obtain ⟨ns, hn⟩ := hS l z
    have h3 := Ex.lst (x1.trans (e2.trans e3)) hn
    rw [hl] at h3
    injection h3 with h3
    injection h3 with h3
    subst h3
    cases hz : spansM m rs g m [] (mks m) with
    | nil => exact spansM_ne m rs g _ _ _ hz
    | cons z zs =>
      rw [hz] at hv
      obtain ⟨v, r, ev, ⟨a, ws, eq, _⟩, _⟩ := hv
      cases ns with
      | nil => cases ev
      | cons n ns =>
        injection ev with ev _
        rw [eq] at ev
        cases ev
  have hp3 : H' l = some (.lst ys) := e4.keep l _ hl nS fun ps z => by cases z
  refine ⟨fun i hi => ?_, fun i hi => ⟨ys, SqL.of hp3, by rw [hv.len]; exact hi⟩, fun i d y H'' hd hy => ?_⟩
  · have hi2 : i < ys.length := by rw [hv.len]; exact hi
    exact ⟨ys, ys[i], SqL.of hp3, List.getElem?_eq_getElem hi2⟩
  · obtain ⟨rfl, hy⟩ := hy
    obtain ⟨d', e1, a1⟩ := (hv.mono e4).get (hy ys (SqL.of hp3))
    rw [hd] at e1
    cases e1
    exact ⟨Exb.refl _, a1⟩
end
end G30
set_option Elab.async false
set_option linter.all false
set_option maxRecDepth 100000
set_option maxHeartbeats 4000000
set_option autoImplicit false
namespace G30
open PySem PySem.Spec PyProof.Rows L2 LamX StX SlX
section
variable {P : Program} {w : World} {K : PySem.W.Frag} {mg : Str → Option Value} {base : Heap}
def cellS (z : List Int × List Int × Bool) (acc : List Int) (j : Nat) : List Int := if z.2.2 = true then acc.set (z.1.length + j) (acc.getD (z.1.length + j) 0 + chooseI ((z.2.1.length : Int) - z.1.length) ((z.1.length : Int) + (j : Int) - z.1.length)) else acc
def rowS (acc : List Int) (z : List Int × List Int × Bool) : List Int := (List.range (z.2.1.length + 1 - z.1.length)).foldl (cellS z) acc
def accS (m : Nat) (zs : List (List Int × List Int × Bool)) : List Int := zs.foldl rowS (List.replicate (m + 1) 0)
def SpansOk (m : Nat) (rs : Rules) (g : List Int) : Prop := counts m rs g = accS m (spansM m rs g m [] (mks m))
theorem cellS_len (z : List Int × List Int × Bool) (acc : List Int) (j : Nat) : (cellS z acc j).length = acc.length := by
  unfold cellS
  split
  · exact List.length_set
  · rfl
theorem cells_len (z : List Int × List Int × Bool) (acc : List Int) : ∀ js : List Nat, (js.foldl (cellS z) acc).length = acc.length := fun js => by
  refine snoc_ind (motive := fun js => (js.foldl (cellS z) acc).length = acc.length) rfl (fun js j ih => ?_) js
  rw [List.foldl_append]
  show (cellS z (js.foldl (cellS z) acc) j).length = _
  rw [cellS_len, ih]
theorem rowS_len (acc : List Int) (z : List Int × List Int × Bool) : (rowS acc z).length = acc.length := cells_len z acc _
theorem accS_len (m : Nat) : ∀ zs, (accS m zs).length = m + 1 := fun zs => by
  refine snoc_ind (motive := fun zs => (accS m zs).length = m + 1) (by unfold accS; exact List.length_replicate) (fun zs z ih => ?_) zs
  unfold accS at *
  rw [List.foldl_append]
  show (rowS _ z).length = _
  rw [rowS_len, ih]
theorem accS_snoc (m : Nat) (zs : List (List Int × List Int × Bool)) (z : List Int × List Int × Bool) : accS m (zs ++ [z]) = rowS (accS m zs) z := by
  unfold accS
  rw [List.foldl_append]
  rfl
theorem has__law_spans_right (Z : Zk K mg) (TB : TbF K mg base) : Has P w K mg base 13 "_law_spans_right" (spD (tabsT K) (He.ga K "Book") (R_goal_ok SpansOk)) := by
  have hN : (["_law_book", "_law_goal", "_law_found", "_law_low", "_law_high", "_law_does", "_law_size"] : List Str).Nodup := by decide +kernel
  refine has_D (N := ["_law_book", "_law_goal", "_law_found", "_law_low", "_law_high", "_law_does", "_law_size"]) (ps := ["_law_book", "_law_goal"]) (d := dF 88 "_law_spans_right" "_law_spans_right") (Z.d 68 rfl rfl rfl) (Z.glo 59 rfl) ⟨rfl, rfl, rfl, hN, rfl, by decide +kernel, by decide +kernel⟩ ?hlen (fun _ _ _ _ _ _ us hl => match us, hl with | [_, _], _ => rfl) (fun f cd A outer s0 H E hr0 ds r hR Q q => ?body)
  case hlen => exact fun ds d ⟨_, _, _, _, _, _, h, _⟩ => by rw [h]; rfl
  obtain ⟨m, rs, g, ho, hg, hc, rfl, rfl⟩ := hR
  have h5 := ho.m5
  refine sd_setL (i := 2) hN rfl (by first | exact .inl rfl | exact .inr rfl) (pl_rep0 (pd_add (pd_bkM Z.bk (pdv 0)) pd_int) ?_ ?_) ?_
  · omega
  · omega
  intro p vs H1 hn1 e1 hp hv
  have hp : H1 p = some (.lst ((List.replicate (m + 1) (0 : Int)).map V.int)) := by
    rw [hp, AtL.ints hv]
    congr 4
  have allok : ∀ z ∈ spansM m rs g m [] (mks m), SpOk m z := spansM_ok m rs g m [] (mks m) ⟨List.Pairwise.nil, fun x hx => by (cases hx), fun x hx => by (cases hx)⟩ (mks_ok m) (fun x hx => by (cases hx))
  refine sd_for (S := fun b => b = p) (is := [3, 4, 5]) (spansM m rs g m [] (mks m)) spD3 (fun k H' => H' p = some (.lst ((accS m ((spansM m rs g m [] (mks m)).take k)).map V.int)))
    (fun _ => [some (bkD m rs), some (sD g), some (.r p), none, none, none, none]) (fun _ z => [some (bkD m rs), some (sD g), some (.r p), some (sD z.1), some (sD z.2.1), some (.b z.2.2), none]) PassesOwn.never rfl
    (id_spans (has_spans Z) (Z.cls 96 rfl) (Z.noat 101 rfl) hr0 ho hg (ad_cons (pdv 0) (ad_cons (pdv 1) ad_nil)) (fun b hb => ⟨List.replicate (m + 1) 0, by rw [hb]; exact hp⟩)) (pg_tup rfl (pgs_cons (pg_name (i := 3) hN rfl (by first | exact .inl rfl | exact .inr rfl)) (pgs_cons (pg_name (i := 4) hN rfl (by first | exact .inl rfl | exact .inr rfl)) (pgs_cons (pg_name (i := 5) hN rfl (by first | exact .inl rfl | exact .inr rfl)) pgs_nil)))) (fun k s _ => gd_tup3) (fun H2 e => Ex.lst e hp) (gle (by repeat' first | exact True.intro | exact rfl | refine And.intro ?_ ?_)) (fun k H2 H3 h e => Ex.lst e h) ?_ ?_
  · rintro H2 e2 k ⟨lo, hi, does⟩ H' hz eb h1
    have ok := allok _ (List.mem_of_getElem? hz)
    have tk : (spansM m rs g m [] (mks m)).take (k + 1) = (spansM m rs g m [] (mks m)).take k ++ [(lo, hi, does)] := by rw [List.take_add_one, hz]; rfl
    have la := accS_len m ((spansM m rs g m [] (mks m)).take k)
    generalize hacc : accS m ((spansM m rs g m [] (mks m)).take k) = acc at h1 la
    have l1 : lo.length ≤ hi.length := nodup_sub lo hi ok.lo.nodup ok.sub
    have l2 : hi.length ≤ m := ok.hi.len
    refine sd_for (S := fun b => b = p) (is := [6]) (List.range (hi.length + 1 - lo.length)) (fun (j : Nat) => D.i ((lo.length : Int) + (j : Int))) (fun j H'' => H'' p = some (.lst (((List.range j).foldl (cellS (lo, hi, does)) acc).map V.int)))
      (fun _ => [some (bkD m rs), some (sD g), some (.r p), some (sD lo), some (sD hi), some (.b does), none]) (fun _ j => [some (bkD m rs), some (sD g), some (.r p), some (sD lo), some (sD hi), some (.b does), some (.i ((lo.length : Int) + (j : Int)))]) PassesOwn.never rfl
      (ID.is (id_range2 Z.range (pd_lenT Z.len (pdv 3)) (pd_add (pd_lenT Z.len (pdv 4)) pd_int) ?_) ?_) (pg_name (i := 6) hN rfl (by first | exact .inl rfl | exact .inr rfl)) (fun k s _ => gd_name) (fun H3 e => Ex.lst e h1) (gle (by repeat' first | exact True.intro | exact rfl | refine And.intro ?_ ?_)) (fun k H2 H3 h e => Ex.lst e h) ?_ ?_
    · rw [List.length_map, List.length_map]
      show _ ≤ (lo.length : Int) ∧ (lo.length : Int) < _ ∧ _ ≤ (hi.length : Int) + 1 ∧ (hi.length : Int) + 1 < _
      omega
    · rw [List.length_map, List.length_map, show ((hi.length : Int) + 1 - lo.length).toNat = hi.length + 1 - lo.length by omega]
      rfl
    · rintro H3 e3 j a H4 ha eb4 h4
      obtain ⟨ha1, ha2⟩ := List.getElem?_eq_some_iff.mp ha
      rw [List.getElem_range] at ha2
      rw [List.length_range] at ha1
      subst ha2
      have st : (List.range (j + 1)).foldl (cellS (lo, hi, does)) acc = cellS (lo, hi, does) ((List.range j).foldl (cellS (lo, hi, does)) acc) j := by
        rw [List.range_succ, List.foldl_append]
        rfl
      have lb := cells_len (lo, hi, does) acc (List.range j)
      generalize hb : (List.range j).foldl (cellS (lo, hi, does)) acc = bcc at h4 lb st
      have gj : bcc[lo.length + j]? = some (bcc.getD (lo.length + j) 0) := by
        rw [List.getD_eq_getElem?_getD, List.getElem?_eq_getElem (by omega)]
        rfl
      have ixj : ixN bcc.length ((lo.length : Int) + (j : Int)) = some (lo.length + j) := ixN_nat (j := lo.length + j) (by omega)
      have hat : atI (bcc.map D.i) ((lo.length : Int) + (j : Int)) = some (.i (bcc.getD (lo.length + j) 0)) := by
        unfold atI
        rw [List.length_map, ixj]
        show (bcc.map D.i)[lo.length + j]? = _
        rw [List.getElem?_map, gj]
        rfl
      refine sd_if (td_val (pdv 5)) (fun hw => ?_) (fun hw => ?_)
      · subst hw
        refine sd_setI 2 (j := lo.length + j) h4 (pdv 6) (pd_add (pd_ixL (prv 2 (SqL.of h4) (AtL.of_ints bcc)) (pdv 6) hat) (PD.is (d := .i (chooseI ((hi.length : Int) - lo.length) ((lo.length : Int) + (j : Int) - lo.length))) (pd_call (has__law_choose Z) hr0 (ad_cons (pd_sub (pd_lenT Z.len (pdv 4)) (pd_lenT Z.len (pdv 3))) (ad_cons (pd_sub (pdv 6) (pd_lenT Z.len (pdv 3))) ad_nil)) ⟨_, _, ?_, ?_, ?_, ?_, rfl, rfl⟩) (by rw [List.length_map, List.length_map]))) ?_ ?_
        · rw [List.length_map, List.length_map]; omega
        · rw [List.length_map, List.length_map]; omega
        · rw [List.length_map]; omega
        · rw [List.length_map]; omega
        · rw [ixj]
        intro H5 e5 h5'
        refine sd_nil fun σ H6 e6 s6 => wS_nil ⟨(eb4.trans e5).trans (Ex.to e6), s6.gle (gle (by repeat' first | exact True.intro | exact rfl | refine And.intro ?_ ?_)), ?_⟩
        show H6 p = some (.lst (((List.range (j + 1)).foldl (cellS (lo, hi, true)) acc).map V.int))
        rw [st, Ex.lst e6 h5']
        unfold cellS
        rw [if_pos rfl]
      · refine sd_nil fun σ H5 e5 s5 => wS_nil ⟨eb4.trans (Ex.to e5), s5.gle (gle (by repeat' first | exact True.intro | exact rfl | refine And.intro ?_ ?_)), ?_⟩
        show H5 p = some (.lst (((List.range (j + 1)).foldl (cellS (lo, hi, does)) acc).map V.int))
        rw [st, Ex.lst e5 h4]
        unfold cellS
        rw [if_neg (by rw [show (lo, hi, does).2.2 = false from hw]; exact Bool.false_ne_true)]
    · rintro H3 eb3 h3
      refine sd_nil fun σ H5 e5 s5 => ⟨(eb.trans eb3).trans (Ex.to e5), s5.gle (gle (by repeat' first | exact True.intro | exact rfl | refine And.intro ?_ ?_)), ?_⟩
      show H5 p = some (.lst ((accS m ((spansM m rs g m [] (mks m)).take (k + 1))).map V.int))
      rw [tk, accS_snoc, hacc, Ex.lst e5 h3, List.length_range]
      rfl
  · intro H2 eb h1
    rw [List.take_length] at h1
    refine sd_ret (PD.is (pd_eqS hr0 (pd_call (has_counts Z TB) hr0 (ad_cons (pdv 0) (ad_cons (pdv 1) ad_nil)) ⟨_, _, _, ho, hg, rfl, rfl⟩) (pd_tupleL Z.tuple_ (prv 2 (SqL.of h1) (AtL.of_ints _)))) ?_) fun v H3 e3 a3 => q v H3 (((Ex.to e1).trans (eb.trans (Ex.to e3))).drop fun b hb => by rw [hb]; exact hn1) a3
    · have hc : counts m rs g = accS m (spansM m rs g m [] (mks m)) := hc
      rw [decide_eq_true hc]
end
end G30
set_option Elab.async false
set_option linter.all false
set_option maxRecDepth 100000
set_option maxHeartbeats 4000000
set_option autoImplicit false
namespace G30
open PySem PySem.Spec PyProof.Rows L2 LamX StX SlX
section
variable {X : Cx} {T : List (Addr × Str)} {B : Addr} {Γ : List (Option D)} {H : Hp} {d1 d2 d3 : D} {a b c : Expr} {pos : Pos} {F : Ends} {rest : List Stmt} {i j l : Nat} {x y z : Str}
theorem sd_par3 (hc : X.calm = true) (hN : X.N.Nodup) (hi : X.N[i]? = some x) (hj : X.N[j]? = some y) (hl : X.N[l]? = some z) (hij : i ≠ j) (hil : i ≠ l) (hjl : j ≠ l) (hx : X.env.scope.names.lookup x = some .local) (hy : X.env.scope.names.lookup y = some .local) (hz : X.env.scope.names.lookup z = some .local) {px py pz pt : Pos} {kt k2 pt2}
    (ha : AD X T B [a, b, c] Γ H [d1, d2, d3]) (hw : swappedStores [.Tuple [.Name x px, .Name y py, .Name z pz] kt pt] (.Tuple [a, b, c] k2 pt2) X.env = pure (some [x, y, z])) (k : SD X T B rest (((Γ.set i (some d1)).set j (some d2)).set l (some d3)) H F)
    (hs : swapsWithSole [.Tuple [.Name x px, .Name y py, .Name z pz] kt pt] (.Tuple [a, b, c] k2 pt2) pos.line X.env = pure false := by rfl) : SD X T B (.Assign [.Tuple [.Name x px, .Name y py, .Name z pz] kt pt] (.Tuple [a, b, c] k2 pt2) pos :: rest) Γ H F := fun σ H1 x s =>
  wS_cons (ps_par3 hc hN hi hj hl hij hil hjl hx hy hz (paS X [a, b, c]) hw hs) (ha σ H1 x s _ fun vs H2 e2 at2 => by
    obtain ⟨v, w, u, rfl, h1, h2, h3⟩ := at2.three
    exact ⟨v, w, u, rfl, k _ H2 (x.trans e2) ((((s.mono e2).set h1).set h2).set h3)⟩)
end
section
variable {P : Program} {w : World} {K : PySem.W.Frag} {mg : Str → Option Value} {base : Heap}
/-! ### the shares are right -/
theorem totF_bd {m : Nat} (hm : m ≤ 5) : ∀ ss : List (List Int), (∀ s ∈ ss, s.length ≤ 5) → totF m ss ≤ 1000000 * ss.length := fun ss => by
  refine snoc_ind (motive := fun ss => (∀ s ∈ ss, s.length ≤ 5) → totF m ss ≤ 1000000 * ss.length) (fun _ => Int.le_refl _) (fun ss s ih h => ?_) ss
  rw [totF_snoc, List.length_append, List.length_singleton]
  have h1 := ih fun t ht => h t (List.mem_append_left _ ht)
  have h2 := h s (List.mem_append_right _ (List.mem_singleton.mpr rfl))
  have f1 : 0 < fact s.length ∧ fact s.length < 1000 := fact_pos ⟨s.length, by omega⟩
  have f2 : 0 < fact (m - s.length - 1) ∧ fact (m - s.length - 1) < 1000 := fact_pos ⟨m - s.length - 1, by omega⟩
  have : wgt m s ≤ 1000 * 1000 := Int.mul_le_mul (by omega) (by omega) (by omega) (by decide)
  omega
theorem shares_bd {m : Nat} {rs : Rules} {g : List Int} (h5 : m ≤ 5) : ∀ z ∈ shares m rs g, 0 ≤ z.1 ∧ z.1 < 1000000000 ∧ 0 < z.2 ∧ z.2 < 1000 := by
  intro z hz
  obtain ⟨k, _, rfl⟩ := List.mem_map.mp hz
  have hm : ∀ s ∈ swingsOf m rs g k, s.length ≤ 5 := fun s hs => Nat.le_trans (mem_setsOf (List.mem_filter.mp hs).1).len h5
  have t0 := totF_nn h5 _ hm
  have t1 := totF_bd h5 _ hm
  have t2 := List.length_filter_le (swingB m rs g k) (setsOf m)
  have t3 := len_setsOf m
  have t4 := two_pow_le (Nat.le_refl m) h5
  have f1 : 0 < fact m ∧ fact m < 1000 := fact_pos ⟨m, by omega⟩
  have t5 : ((swingsOf m rs g k).length : Int) ≤ 32 := by
    have : (swingsOf m rs g k).length ≤ 32 := by unfold swingsOf; omega
    omega
  have gp : (0 : Int) < (Int.gcd (totF m (swingsOf m rs g k)) (fact m) : Int) := by
    have : 0 < Int.gcd (totF m (swingsOf m rs g k)) (fact m) := Int.gcd_pos_of_ne_zero_right _ (by have := f1.1; show fact m ≠ 0; omega)
    omega
  refine ⟨Int.ediv_nonneg t0 (Int.le_of_lt gp), ?_, ?_, ?_⟩
  · have := Int.ediv_le_self (Int.gcd (totF m (swingsOf m rs g k)) (fact m) : Int) t0
    show totF m (swingsOf m rs g k) / _ < _
    omega
  · show 0 < fact m / _
    exact Int.ediv_pos_of_pos_of_dvd f1.1 (Int.le_of_lt gp) (Int.gcd_dvd_right _ _)
  · have := Int.ediv_le_self (Int.gcd (totF m (swingsOf m rs g k)) (fact m) : Int) (Int.le_of_lt f1.1)
    have := f1.2
    show fact m / _ < _
    omega
end
end G30
set_option Elab.async false
set_option linter.all false
set_option maxRecDepth 100000
set_option maxHeartbeats 4000000
set_option autoImplicit false
namespace G30
open PySem PySem.Spec PyProof.Rows L2 LamX StX SlX
section
variable {P : Program} {w : World} {K : PySem.W.Frag} {mg : Str → Option Value} {base : Heap}
theorem pd_geI {X : Cx} {T : List (Addr × Str)} {B : Addr} {Γ : List (Option D)} {H : Hp} {a b : Expr} {pos : Pos} {m n : Int} (ha : PD X T B a Γ H (.i m)) (hb : PD X T B b Γ H (.i n)) : PD X T B (.Compare a [.GtE] [b] pos) Γ H (.b (decide (n ≤ m))) := pd_cmp op_ge ha hb (rd_I0 fun _ => rfl)
def sumS (zs : List (Int × Int)) : Int × Int := zs.foldl (fun acc z => (acc.1 * z.2 + z.1 * acc.2, acc.2 * z.2)) (0, 1)
theorem sumS_snoc (zs : List (Int × Int)) (z : Int × Int) : sumS (zs ++ [z]) = ((sumS zs).1 * z.2 + z.1 * (sumS zs).2, (sumS zs).2 * z.2) := by
  unfold sumS
  rw [List.foldl_append]
  rfl
structure SharesOk (m : Nat) (rs : Rules) (g : List Int) : Prop where
  sum : (sumS (shares m rs g)).1 = if enough m rs g [] = true then 0 else (sumS (shares m rs g)).2
  zero : ((shares m rs g).map fun z => decide (z.1 = 0)) = (swings m rs g).map fun n => decide (n = 0)
  last : atI ((counts m rs g).map D.i) (-1) = some (.i 1)
  many : (((shares m rs g).filter fun z => decide (0 < z.1)).length : Int) ≤ (swings m rs g).sum
theorem swings_len (m : Nat) (rs : Rules) (g : List Int) : (swings m rs g).length = m := by unfold swings; rw [List.length_map, mks_len]
theorem shares_len (m : Nat) (rs : Rules) (g : List Int) : (shares m rs g).length = m := by unfold shares; rw [List.length_map, mks_len]
theorem has__law_shares_right (Z : Zk K mg) (TB : TbF K mg base) : Has P w K mg base 8 "_law_shares_right" (spD (tabsT K) (He.ga K "Book") (R_goal_ok SharesOk)) := by
  have hN : (["_law_book", "_law_goal", "_law_rows", "_law_over", "_law_under", "_law_one", "_law_other", "_law_many"] : List Str).Nodup := by decide +kernel
  refine has_D (N := ["_law_book", "_law_goal", "_law_rows", "_law_over", "_law_under", "_law_one", "_law_other", "_law_many"]) (ps := ["_law_book", "_law_goal"]) (d := dF 91 "_law_shares_right" "_law_shares_right") (Z.d 71 rfl rfl rfl) (Z.glo 62 rfl) ⟨rfl, rfl, rfl, hN, rfl, by decide +kernel, by decide +kernel⟩ ?hlen (fun _ _ _ _ _ _ us hl => match us, hl with | [_, _], _ => rfl) (fun f cd A outer s0 H E hr0 ds r hR Q q => ?body)
  case hlen => exact fun ds d ⟨_, _, _, _, _, _, h, _⟩ => by rw [h]; rfl
  obtain ⟨m, rs, g, ho, hg, hc, rfl, rfl⟩ := hR
  have h5 := ho.m5
  have o0 : OkS m [] := ⟨List.Pairwise.nil, fun x hx => by (cases hx), fun x hx => by (cases hx)⟩
  refine sd_par3 (i := 2) (j := 3) (l := 4) rfl hN rfl rfl rfl (by decide) (by decide) (by decide) rfl rfl rfl (ad_cons (pd_call (has_shares Z TB) hr0 (ad_cons (pdv 0) (ad_cons (pdv 1) ad_nil)) ⟨_, _, _, ho, hg, rfl, rfl⟩) (ad_cons pd_int (ad_cons pd_int ad_nil))) rfl ?_
  have bd := shares_bd (rs := rs) (g := g) h5
  refine sd_for (S := Nob) (is := [5, 6]) (shares m rs g) prD (fun _ _ => True) (fun j => [some (bkD m rs), some (sD g), some (.t ((shares m rs g).map prD)), some (.i (sumS ((shares m rs g).take j)).1), some (.i (sumS ((shares m rs g).take j)).2), none, none, none]) (fun j z => [some (bkD m rs), some (sD g), some (.t ((shares m rs g).map prD)), some (.i (sumS ((shares m rs g).take j)).1), some (.i (sumS ((shares m rs g).take j)).2), some (.i z.1), some (.i z.2), none]) PassesOwn.never rfl
    (id_tup (pdv 2)) (pg_tup rfl (pgs_cons (pg_name (i := 5) hN rfl (by first | exact .inl rfl | exact .inr rfl)) (pgs_cons (pg_name (i := 6) hN rfl (by first | exact .inl rfl | exact .inr rfl)) pgs_nil))) (fun k s _ => gd_tup2) (fun _ _ => True.intro) (by rw [List.take_zero]; exact (gle (by repeat' first | exact True.intro | exact rfl | refine And.intro ?_ ?_))) (fun _ _ _ _ _ => True.intro) ?_ ?_
  · rintro H2 e2 j ⟨za, zb⟩ H' hz eb _
    have b := bd _ (List.mem_of_getElem? hz)
    have b1 : 0 ≤ za ∧ za < 1000000000 ∧ 0 < zb ∧ zb < 1000 := b
    have tk : (shares m rs g).take (j + 1) = (shares m rs g).take j ++ [(za, zb)] := by rw [List.take_add_one, hz]; rfl
    refine sd_par (i := 3) (j := 4) rfl hN rfl rfl (by decide) rfl rfl (ad_cons (pd_add (pd_mul (pdv 3) (pdv 6) (.inr ⟨by omega, by omega⟩)) (pd_mul (pdv 5) (pdv 4) (.inl ⟨by omega, by omega⟩))) (ad_cons (pd_mul (pdv 4) (pdv 6) (.inr ⟨by omega, by omega⟩)) ad_nil)) rfl ?_
    refine sd_nil fun σ H4 e4 s4 => ⟨eb.trans e4, ?_, True.intro⟩
    show Sl (tabsT K) (He.ga K "Book") H4 σ [some (bkD m rs), some (sD g), some (.t ((shares m rs g).map prD)), some (.i (sumS ((shares m rs g).take (j + 1))).1), some (.i (sumS ((shares m rs g).take (j + 1))).2), none, none, none]
    rw [tk, sumS_snoc]
    exact s4.gle (gle (by repeat' first | exact True.intro | exact rfl | refine And.intro ?_ ?_))
  · intro H' eb _
    rw [List.take_length]
    have e1 : ∀ xs : List (Int × Int), (xs.map fun z => D.b (decide (z.1 = 0))) = (xs.map fun z => decide (z.1 = 0)).map D.b := fun xs => by rw [List.map_map]; rfl
    have e2 : ((swings m rs g).map fun n => D.b (decide (n = 0))) = ((swings m rs g).map fun n => decide (n = 0)).map D.b := by rw [List.map_map]; rfl
    refine sd_skip (TD.is (td_neI (pdv 3) (pd_ite (td_val (pd_call (has_follows Z) hr0 (ad_cons (pdv 0) (ad_cons (pd_tup (ad_cons (pd_tup ad_nil (Nat.zero_le _)) (ad_cons (pdv 1) ad_nil)) (by show 2 ≤ 2 ^ 24; decide)) ad_nil)) ⟨_, _, ([], g), ho, o0, hg, rfl, rfl⟩)) pd_int (pdv 4))) ?_) ?_
    · rw [decide_eq_true hc.sum]
      rfl
    refine sd_skip (TD.is (td_neL (n := 3) hr0 (PL.r (PL.is (pl_lc (own := [("_law_one", 5)]) (is := [5]) (shares m rs g) (prD) _ _ rfl hN (id_tup (pdv 2)) (blk_ok (by kernel_rfl)) (fun _ _ _ _ _ => pg_name (i := 5) hN rfl (by first | exact .inl rfl | exact .inr rfl)) (fun a ha => (gd_name)) (by decide) (fun a ha s0 H0 C cl fp => (pd_eqI (pd_ixT (d := .i a.1) (pdv 5) pd_int rfl) pd_int)) ?_) (e1 _))) (PL.r (PL.is (pl_lc (own := [("_law_many", 7)]) (is := [7]) (swings m rs g) D.i (fun n => .b (decide (n = 0))) _ rfl hN (id_tup (pd_call (has_swings Z TB) hr0 (ad_cons (pdv 0) (ad_cons (pdv 1) ad_nil)) ⟨_, _, _, ho, hg, rfl, rfl⟩)) (blk_ok (by kernel_rfl)) (fun _ _ _ _ _ => pg_name (i := 7) hN rfl (by first | exact .inl rfl | exact .inr rfl)) (fun a ha => gd_name) (by decide) (fun a ha s0 H0 C cl fp => pd_eqI (pdv 7) pd_int) ?_) e2)) (okL_bools _) (okL_bools _)) ?_) ?_
    rotate_right
    · refine sd_ret (PD.is (pd_and (pd_eqI (pd_ixT (pd_call (has_counts Z TB) hr0 (ad_cons (pdv 0) (ad_cons (pdv 1) ad_nil)) ⟨_, _, _, ho, hg, rfl, rfl⟩) (pd_neg pd_int) hc.last) pd_int) (fun _ => pd_one (pd_geI (pd_sumT rfl Z.sum (pd_call (has_swings Z TB) hr0 (ad_cons (pdv 0) (ad_cons (pdv 1) ad_nil)) ⟨_, _, _, ho, hg, rfl, rfl⟩)) (pd_lenL Z.len (PL.r (pl_lcI (own := [("_law_one", 5)]) (is := [5]) (shares m rs g) (prD) _ _ _ rfl hN (id_tup (pdv 2)) (blk_ok (by kernel_rfl)) (fun _ _ _ _ _ => pg_name (i := 5) hN rfl (by first | exact .inl rfl | exact .inr rfl)) (fun a ha => (gd_name)) (by decide) (fun a ha s0 H0 C cl fp => (td_gt (pd_ixT (d := .i a.1) (pdv 5) pd_int rfl) pd_int)) (fun a ha hp s0 H0 C cl fp => (pdv 5)) ?_)))))) ?_) fun v H3 e3 a3 => q v H3 (eb.trans e3) a3
      · rw [shares_len]
        show m < 2 ^ 24
        omega
      · rw [List.length_map, decide_eq_true hc.many]
        rfl
    · rw [shares_len]
      show m < 2 ^ 24
      omega
    · rw [swings_len]
      show m < 2 ^ 24
      omega
    · rw [eqv_bools, decide_eq_true hc.zero]
      rfl
end
end G30
set_option Elab.async false
set_option linter.all false
set_option maxRecDepth 100000
set_option maxHeartbeats 4000000
set_option autoImplicit false
namespace G30
open PySem PySem.Spec PyProof.Rows L2 LamX StX SlX
section
variable {P : Program} {w : World} {K : PySem.W.Frag} {mg : Str → Option Value} {base : Heap}
theorem shut_whole {m : Nat} {rs : Rules} (ho : OkR m rs) : isShut rs (mks m) = true := by
  unfold isShut
  refine List.all_eq_true.mpr fun r hr => within_iff.mpr fun x hx => ?_
  have := (ho.ok r (List.mem_filter.mp hr).1).2
  exact mem_mks.mpr ⟨this.lo x hx, this.hi x hx⟩
theorem cut_take (ns : List Int) (r : Nat) : cutD (ns.map D.i) none (some (r : Int)) = (ns.take r).map D.i := by
  unfold cutD
  rw [HT.sIx_none, List.drop_zero, Nat.sub_zero]
  have e : HT.sIx (ns.map D.i).length (ns.map D.i).length (some (r : Int)) = min r (ns.map D.i).length := HT.sIx_nat _ _ r
  rw [e, List.map_take]
  by_cases h : r ≤ (ns.map D.i).length
  · rw [Nat.min_eq_left h]
  · rw [Nat.min_eq_right (by omega), List.take_length, List.take_of_length_le (by omega)]
def dueM (m e : Nat) : List Int := (List.range (m + 1)).map fun (k : Nat) => chooseI ((m : Int) - (e : Int)) (0 + (k : Int) - (e : Int))
structure WholeOk (m : Nat) (rs : Rules) : Prop where
  geo : isGeo m rs = true → counts m rs (mks m) = dueM m (endsM rs (mks m)).length
  alt : isGeo m rs = true → altI (counts m rs (mks m)) = if decide (((endsM rs (mks m)).length : Int) = m) = true then (if decide ((m : Int) % 2 = 0) = true then 1 else -1) else 0
  top : hasEx m rs = true → atI ((counts m rs (mks m)).map D.i) (rankM m rs (mks m) : Int) = some (.i ((basesM m rs).length : Int))
  low : hasEx m rs = true → ((counts m rs (mks m)).take (rankM m rs (mks m))).sum = 0
theorem has__law_whole_right (Z : Zk K mg) (TB : TbF K mg base) : Has P w K mg base 10 "_law_whole_right" (spD (tabsT K) (He.ga K "Book") (R_book_ok WholeOk)) := by
  have hN : (["_law_book", "_law_every", "_law_told", "_law_many", "_law_due", "_law_size", "_law_sign"] : List Str).Nodup := by decide +kernel
  refine has_D (N := ["_law_book", "_law_every", "_law_told", "_law_many", "_law_due", "_law_size", "_law_sign"]) (ps := ["_law_book"]) (d := dF 92 "_law_whole_right" "_law_whole_right") (Z.d 72 rfl rfl rfl) (Z.glo 63 rfl) ⟨rfl, rfl, rfl, hN, rfl, by decide +kernel, by decide +kernel⟩ ?hlen (fun _ _ _ _ _ _ us hl => match us, hl with | [_], _ => rfl) (fun f cd A outer s0 H E hr0 ds r hR Q q => ?body)
  case hlen => exact fun ds d ⟨_, _, _, _, h, _⟩ => by rw [h]; rfl
  obtain ⟨m, rs, ho, hc, rfl, rfl⟩ := hR
  have h5 := ho.m5
  have hg := mks_ok m
  have hsh := shut_whole ho
  refine sd_set (i := 1) (d := sD (mks m)) hN rfl (by first | exact .inl rfl | exact .inr rfl) (PD.is (pd_tupRg1 rfl Z.tuple_ Z.range (pd_bkM Z.bk (pdv 0)) ⟨by omega, by omega⟩) (by rw [Int.toNat_natCast, rgD_mks])) ?_
  refine sd_set (i := 2) (d := sD (counts m rs (mks m))) hN rfl (by first | exact .inl rfl | exact .inr rfl) (pd_call (has_counts Z TB) hr0 (ad_cons (pdv 0) (ad_cons (pdv 1) ad_nil)) ⟨_, _, _, ho, hg, rfl, rfl⟩) ?_
  have rest : ∀ (Γr : List (Option D)) (H' : Hp), Ex (tabsT K) H H' → (([some (bkD m rs), some (sD (mks m)), some (sD (counts m rs (mks m))), none, none, none, none] : List (Option D)).length = Γr.length ∧ ∀ (i : Nat) (d : D), ([some (bkD m rs), some (sD (mks m)), some (sD (counts m rs (mks m))), none, none, none, none] : List (Option D))[i]? = some (some d) → Γr[i]? = some (some d)) →
      SD (bx P w K mg base ["_law_book", "_law_every", "_law_told", "_law_many", "_law_due", "_law_size", "_law_sign"] (dF 92 "_law_whole_right" "_law_whole_right") f cd A outer s0 H E) (tabsT K) (He.ga K "Book") ((dF 92 "_law_whole_right" "_law_whole_right").body.drop 3) Γr H' { nx := fun _ H' => Q .non H', rt := Q } := by
    intro Γr H' eH hΓ
    have main : SD (bx P w K mg base ["_law_book", "_law_every", "_law_told", "_law_many", "_law_due", "_law_size", "_law_sign"] (dF 92 "_law_whole_right" "_law_whole_right") f cd A outer s0 H E) (tabsT K) (He.ga K "Book") ((dF 92 "_law_whole_right" "_law_whole_right").body.drop 3) [some (bkD m rs), some (sD (mks m)), some (sD (counts m rs (mks m))), none, none, none, none] H' { nx := fun _ H' => Q .non H', rt := Q } := by
      refine sd_if (l := hasEx m rs) (td_val (pd_call (has_has_exchange Z TB) hr0 (ad_cons (pdv 0) ad_nil) ⟨_, _, ho, rfl, rfl⟩)) (fun hw => ?_) (fun hw => sd_on ?_)
      · refine sd_set (i := 3) (d := .i (rankM m rs (mks m) : Nat)) hN rfl (by first | exact .inl rfl | exact .inr rfl) (pd_call (has_rank Z TB) hr0 (ad_cons (pdv 0) (ad_cons (pdv 1) ad_nil)) ⟨_, _, _, ho, hw, hg, rfl, rfl⟩) ?_
        refine sd_skip (TD.is (WD.t (wd_or (td_neI (pd_ixT (pdv 2) (pdv 3) (hc.top hw)) (pd_lenL Z.len (PL.r (pl_call (has_bases Z TB) hr0 (ad_cons (pdv 0) ad_nil) ⟨_, _, ho, hw, rfl, rfl⟩)))) (fun _ => wd_or1 (td_neI (pd_sumT rfl Z.sum (PD.is (pd_slT (pdv 2) od_none (od_some (pdv 3))) (congrArg D.t (cut_take _ _)))) pd_int)))) ?_) (sd_on ?_)
        · rw [List.length_map, hc.low hw, decide_eq_true rfl]
          rfl
        · exact sd_ret pd_bl fun v H2 e2 a2 => q v H2 (eH.trans e2) a2
      · exact sd_ret pd_bl fun v H2 e2 a2 => q v H2 (eH.trans e2) a2
    exact fun σ H1 x s => main σ H1 x (s.gle hΓ)
  refine sd_if (l := isGeo m rs) (td_val (pd_call (has_is_geometry Z TB) hr0 (ad_cons (pdv 0) ad_nil) ⟨_, _, ho, rfl, rfl⟩)) (fun hw => ?_) (fun hw => sd_on (rest _ H (Exb.refl _) (gle (by repeat' first | exact True.intro | exact rfl | refine And.intro ?_ ?_))))
  have hgeo : counts m rs (mks m) = dueM m (endsM rs (mks m)).length := hc.geo hw
  have halt := hc.alt hw
  have hlen : (endsM rs (mks m)).length ≤ m := by
    have h1 := List.length_filter_le (fun k => isShut rs ((mks m).filter fun x => !decide (x = k))) (mks m)
    rw [mks_len] at h1
    exact h1
  refine sd_set (i := 3) (d := .i ((endsM rs (mks m)).length : Nat)) hN rfl (by first | exact .inl rfl | exact .inr rfl) (PD.is (pd_lenT Z.len (pd_call (has_ends Z) hr0 (ad_cons (pdv 0) (ad_cons (pdv 1) ad_nil)) ⟨_, _, _, ho, hg, hsh, rfl, rfl⟩)) (by rw [List.length_map])) ?_
  refine sd_setLc (i := 4) (own := [("_law_size", 5)]) (is := [5]) (List.range (m + 1)) (fun (k : Nat) => D.i (0 + (k : Int))) _ _ _ rfl hN rfl rfl (sw_true rfl rfl rfl (by decide +kernel)) (ID.is (id_range1 Z.range (pd_add (pd_bkM Z.bk (pdv 0)) pd_int) ⟨by omega, by omega⟩) (by rw [show ((m : Int) + 1).toNat = m + 1 by omega]; rfl)) (blk_ok (by kernel_rfl)) (fun _ _ _ _ _ => pg_name (i := 5) hN rfl (by first | exact .inl rfl | exact .inr rfl)) (fun a ha => (gd_name)) (by decide) (fun s0 H0 C cl fp => pts_nil) (fun a ha σ1 H1 e1 s1 R r => r H1 (Exb.refl _)) (fun a ha hp s0 H0 C cl fp => (pd_call (has__law_choose Z) hr0 (ad_cons (pd_sub (pd_bkM Z.bk (pdv 0)) (pdv 3)) (ad_cons (pd_sub (pdv 5) (pdv 3)) ad_nil)) ⟨_, _, ?_, ?_, ?_, ?_, rfl, rfl⟩)) ?_ ?_
  rotate_right
  · intro p vs H1 hn1 e1 hp hv
    have hv : AtL (He.ga K "Book") H1 ((dueM m (endsM rs (mks m)).length).map D.i) vs := by
      unfold dueM
      rw [List.map_map]
      rw [List.filter_eq_self.mpr fun _ _ => rfl] at hv
      exact hv
    refine sd_skip (TD.is (td_neS hr0 (pdv 2) (pd_tupleL Z.tuple_ (prv 4 (SqL.of hp) hv))) ?_) ?_
    · rw [decide_eq_true hgeo]
      rfl
    refine sd_set (i := 6) (d := .i (if decide ((m : Int) % 2 = 0) = true then 1 else -1)) hN rfl (by first | exact .inl rfl | exact .inr rfl) (pd_ite (td_eqI (pd_mod (pd_bkM Z.bk (pdv 0)) pd_int (by decide)) pd_int) pd_int (pd_neg pd_int)) ?_
    refine sd_skip (TD.is (td_neI (pd_call (has_alternating Z TB) hr0 (ad_cons (pdv 0) (ad_cons (pdv 1) ad_nil)) ⟨_, _, _, ho, hg, rfl, rfl⟩) (pd_ite (td_eqI (pdv 3) (pd_bkM Z.bk (pdv 0))) (pdv 6) pd_int)) ?_) ?_
    · rw [decide_eq_true halt]
      rfl
    exact sd_on (rest _ H1 e1 (gle (by repeat' first | exact True.intro | exact rfl | refine And.intro ?_ ?_)))
  · omega
  · omega
  · have hk := List.mem_range.mp ‹_ ∈ List.range (m + 1)›
    omega
  · have hk := List.mem_range.mp ‹_ ∈ List.range (m + 1)›
    omega
  · rw [List.length_range]
    show m + 1 < 2 ^ 24
    omega
end
end G30
set_option Elab.async false
set_option linter.all false
set_option maxRecDepth 100000
set_option maxHeartbeats 4000000
set_option autoImplicit false
namespace G30
open PySem PySem.Spec PyProof.Rows L2 LamX StX SlX
section
open PySem PySem.Spec PyProof.Rows
theorem tuple_mul1 (l : Addr) (items : Array Value) (n : Nat) (dd : Option Addr) (sl : Array (Option Value)) (u : Tok) :
    Meets (Builtin.«tuple.__mul__» ⟨[.ref l, .int 1 u], []⟩) (fun _ R s => s.heap.get? l = some { cls := .type "tuple", dict := dd, data := .seq items n, slots := sl } ∧ R (.ok (.ret (Value.ref l))) s) :=
  .of_wp fun prog w A R s h => by
    obtain ⟨hp, g, d, tk, os⟩ := s
    obtain ⟨hl, h⟩ := h
    have f1 := AutoSeq1.idx_int
    have c0 : (decide ((1 : Int) < -(2 ^ 63)) || decide ((1 : Int) ≥ 2 ^ 63)) = false := by decide
    have c1 : (items.isEmpty || (1 : Int) == 1) = true := by rw [show ((1 : Int) == 1) = true from rfl, Bool.or_true]
    wp_walk using wpAny_loadPart' hl
    repeat (first
      | (refine wpAny_ite_false (decide_eq_false (by rw [c0]; exact Bool.false_ne_true)) ?_; wp_walk using wpAny_loadPart' hl)
      | (refine wpAny_ite_true (decide_eq_true c1) ?_; wp_walk using wpAny_loadPart' hl))
    exact ⟨_, rfl, h⟩
theorem op_rep1T {X : Cx} : OpR X (binaryOp .Mult) (fun x y H Q => ∃ l xs, x = .ref l ∧ y = .int 1 ∧ SqT X.K H l xs ∧ Q (.ref l) H) := by
  intro pins s σ H x y v u Q I rx ry h
  obtain ⟨l, xs, rfl, rfl, hT, q⟩ := h
  cases rx
  obtain ⟨t, rfl⟩ := ry
  obtain ⟨its, r, ⟨⟨cls, dd, data, sl⟩, ho, hc, n, hd⟩, hs⟩ := I.tuple hT
  simp only at hc hd
  subst hc hd
  refine wpAny_binaryOp_repeat_ref (T := "tuple") (U := "int") (by decide) ⟨_, ho, rfl⟩ (fun s' => typeIs_int s' 1 t) noFill_tuple_mul F.fills_int_mul F.slot_int_rmul repeat_tuple F.slot_int_index.lookup
    (call_meets F.slot_int_rmul (typeIs_int s 1 t) F.entry_int_rmul (F.args_int_rmul_2 _ _) (int_rmul_tuple 1 t l its.toArray n dd sl)
      ⟨ho, rfl, ⟨_, ho, rfl⟩, call_meets F.slot_tuple_mul ⟨_, ho, rfl⟩ F.entry_tuple_mul (F.args_tuple_mul_2 _ _) (tuple_mul1 l its.toArray n dd sl t) ⟨ho, ?_⟩⟩)
  exact ⟨.ref l, H, I, rfl, q⟩
end
section
variable {X : Cx} {T : List (Addr × Str)} {B : Addr} {Γ : List (Option D)} {H : Hp} {a b : Expr} {pos : Pos}
theorem flat_rep {α : Type} (c : α) : ∀ n : Nat, (List.replicate n [c]).flatten = List.replicate n c
  | 0 => rfl
  | n + 1 => by rw [List.replicate_succ, List.flatten_cons, flat_rep c n]; rfl
/-- (c,) * m -/
theorem pd_repC {c : Int} {m : Nat} (ha : PD X T B a Γ H (sD [c])) (hb : PD X T B b Γ H (.i m)) (h0 : 0 < m) (h1 : m ≤ 1000) : PD X T B (.BinOp a .Mult b pos) Γ H (sD (List.replicate m c)) := fun σ H1 x s Q q => by
  by_cases hm : m = 1
  · subst hm
    exact PE.w (pe_op op_rep1T (peS X a) (peS X b)) (ha σ H1 x s _ fun v H2 e2 a2 => hb σ H2 (x.trans e2) (s.mono e2) _ fun u H3 e3 a3 => by
      obtain ⟨l, ev, hl⟩ := At.set (a2.mono e3)
      exact ⟨l, _, ev, a3, SqT.of hl, by rw [← ev]; exact q v H3 (e2.trans e3) (a2.mono e3)⟩)
  · exact PE.w (pe_op op_repT (peS X a) (peS X b)) (ha σ H1 x s _ fun v H2 e2 a2 => hb σ H2 (x.trans e2) (s.mono e2) _ fun u H3 e3 a3 => by
      obtain ⟨l, ev, hl⟩ := At.set (a2.mono e3)
      refine ⟨l, m, _, ev, a3, SqT.of hl, List.cons_ne_nil _ _, by omega, by omega, by show 1 ≤ 1000; decide, fun p hp => q _ _ ((e2.trans e3).trans (Ex.new hp)) ?_⟩
      refine At.of_set ?_
      rw [upd_same, Int.toNat_natCast, List.map_cons, List.map_nil, flat_rep, List.map_replicate])
end
end G30
set_option Elab.async false
set_option linter.all false
set_option maxRecDepth 100000
set_option maxHeartbeats 4000000
set_option autoImplicit false
namespace G30
open PySem PySem.Spec PyProof.Rows L2 LamX StX SlX
section
/-! ### counting -/
def nSz (f : List Int → Bool) (k : Nat) (ss : List (List Int)) : Nat := ss.countP fun s => decide (s.length = k) && f s
theorem nSz_snoc (f : List Int → Bool) (k : Nat) (ss : List (List Int)) (s : List Int) : nSz f k (ss ++ [s]) = nSz f k ss + if (decide (s.length = k) && f s) = true then 1 else 0 := by
  unfold nSz
  rw [List.countP_append, List.countP_singleton]
theorem cntF_get (m : Nat) (f : List Int → Bool) : ∀ ss : List (List Int), (∀ s ∈ ss, s.length ≤ m) → ∀ k, k ≤ m → (cntF m f ss)[k]? = some (nSz f k ss : Int) := fun ss => by
  refine snoc_ind (motive := fun ss => (∀ s ∈ ss, s.length ≤ m) → ∀ k, k ≤ m → (cntF m f ss)[k]? = some (nSz f k ss : Int)) (fun _ k hk => ?_) (fun ss s ih h k hk => ?_) ss
  · show (List.replicate (m + 1) (0 : Int))[k]? = _
    rw [List.getElem?_replicate, if_pos (by omega)]
    rfl
  · have ih := ih fun t ht => h t (List.mem_append_left _ ht)
    have hs := h s (List.mem_append_right _ (List.mem_singleton.mpr rfl))
    have lc := cntF_len m f ss
    rw [cntF_snoc, nSz_snoc]
    unfold stepC
    by_cases hf : f s = true
    · rw [if_pos hf, hf, Bool.and_true, List.getElem?_set]
      by_cases e : s.length = k
      · subst e
        rw [if_pos rfl, if_pos (by omega), decide_eq_true rfl, if_pos rfl, List.getD_eq_getElem?_getD, ih _ hk]
        rfl
      · rw [if_neg e, decide_eq_false e, ih k hk]
        rfl
    · rw [if_neg hf, ih k hk]
      have : f s = false := by simpa using hf
      rw [this, Bool.and_false]
      rfl
theorem cntF_eq (m : Nat) (f : List Int → Bool) (ss : List (List Int)) (h : ∀ s ∈ ss, s.length ≤ m) : cntF m f ss = (List.range (m + 1)).map fun k => (nSz f k ss : Int) := by
  refine List.ext_getElem? fun k => ?_
  by_cases hk : k ≤ m
  · rw [cntF_get m f ss h k hk, List.getElem?_map, List.getElem?_range (by omega)]
    rfl
  · rw [List.getElem?_eq_none (by rw [cntF_len]; omega), List.getElem?_eq_none (by rw [List.length_map, List.length_range]; omega)]
theorem ones_sum {α : Type} : ∀ l : List α, (l.map fun _ => (1 : Int)).sum = l.length
  | [] => rfl
  | a :: l => by rw [List.map_cons, List.sum_cons, ones_sum l, List.length_cons]; omega
theorem cntL_eq (m : Nat) (f : List Int → Bool) (ss : List (List Int)) : cntL m (ss.filter f) = (List.range (m + 1)).map fun k => (nSz f k ss : Int) := by
  unfold cntL
  refine List.map_congr_left fun k _ => ?_
  rw [ones_sum, ← List.countP_eq_length_filter, List.countP_filter]
  unfold nSz
  congr 2
  funext s
  rw [decide_eq_decide.mpr (show (s.length : Int) = 0 + (k : Int) ↔ s.length = k by omega)]
theorem setsOf_len {m : Nat} : ∀ s ∈ setsOf m, s.length ≤ m := fun _ h => (mem_setsOf h).len
theorem counts_eq (m : Nat) (rs : Rules) (g : List Int) : counts m rs g = (List.range (m + 1)).map fun k => (nSz (enough m rs g) k (setsOf m) : Int) := cntF_eq m _ _ setsOf_len
theorem counts_cntL (m : Nat) (rs : Rules) (g : List Int) : counts m rs g = cntL m ((setsOf m).filter (enough m rs g)) := by rw [counts_eq, cntL_eq]
theorem nSz_congr {f h : List Int → Bool} {k : Nat} {ss : List (List Int)} (e : ∀ s ∈ ss, f s = h s) : nSz f k ss = nSz h k ss := by
  unfold nSz
  exact List.countP_congr fun s hs => by rw [e s hs]
theorem nSz_perm {f : List Int → Bool} {k : Nat} {ss ts : List (List Int)} (e : ss.Perm ts) : nSz f k ss = nSz f k ts := e.countP_eq _
theorem perm_subs (m : Nat) : (setsOf m).Perm (subs m) := List.mergeSort_perm _ _
theorem nSz_mono {f h : List Int → Bool} {k : Nat} {ss : List (List Int)} (e : ∀ s ∈ ss, f s = true → h s = true) : nSz f k ss ≤ nSz h k ss := by
  unfold nSz
  refine List.countP_mono_left fun s hs z => ?_
  rw [Bool.and_eq_true] at z ⊢
  exact ⟨z.1, e s hs z.2⟩
/-! ### closures -/
theorem Cl.mono {rs : Rules} {s t : List Int} (h : ∀ x ∈ s, Cl rs t x) {x : Int} (c : Cl rs s x) : Cl rs t x := by
  induction c with
  | base z => exact h _ z
  | step h1 _ h3 ih => exact .step h1 ih h3
theorem enough_iff {m : Nat} {rs : Rules} {g s : List Int} (ho : OkR m rs) (hs : OkS m s) : enough m rs g s = true ↔ ∀ x ∈ g, Cl rs s x := by
  unfold enough
  rw [within_iff]
  exact ⟨fun h x hx => (mem_clo ho hs.rg).mp (h x hx), fun h x hx => (mem_clo ho hs.rg).mpr (h x hx)⟩
theorem enough_clo {m : Nat} {rs : Rules} {g s : List Int} (ho : OkR m rs) (hg : OkS m g) (hs : OkS m s) : enough m rs (clo m rs g) s = enough m rs g s := by
  rw [Bool.eq_iff_iff, enough_iff ho hs, enough_iff ho hs]
  exact ⟨fun h x hx => h x ((mem_clo ho hg.rg).mpr (.base hx)), fun h x hx => Cl.mono h ((mem_clo ho hg.rg).mp hx)⟩
theorem enough_goal {m : Nat} {rs : Rules} {g g' s : List Int} (h : ∀ x ∈ g, x ∈ g') (e : enough m rs g' s = true) : enough m rs g s = true := by
  unfold enough at e ⊢
  rw [within_iff] at e ⊢
  exact fun x hx => e x (h x hx)
theorem enough_mono {m : Nat} {rs : Rules} {g s t : List Int} (ho : OkR m rs) (hs : OkS m s) (ht : OkS m t) (h : ∀ x ∈ s, x ∈ t) (e : enough m rs g s = true) : enough m rs g t = true := by
  rw [enough_iff ho ht]
  rw [enough_iff ho hs] at e
  exact fun x hx => Cl.mono (fun y hy => .base (h y hy)) (e x hx)
theorem counts_clo {m : Nat} {rs : Rules} {g : List Int} (ho : OkR m rs) (hg : OkS m g) : counts m rs (clo m rs g) = counts m rs g := by
  rw [counts_eq, counts_eq]
  refine List.map_congr_left fun k _ => ?_
  rw [nSz_congr fun s hs => enough_clo ho hg (mem_setsOf hs)]
theorem clos_right {m : Nat} {rs : Rules} {g : List Int} (ho : OkR m rs) (hg : OkS m g) : closRight m rs g = true := by
  unfold closRight
  have e : counts m rs g = cntL m (hereM m rs g) := counts_cntL m rs g
  rw [if_neg, ← e, counts_clo ho hg, decide_eq_true rfl]
  · rfl
  · have h0 : ∀ x ∈ g ++ [(0 : Int)], 0 ≤ x ∧ x < m := snoc_rg hg (by decide) (by have := ho.m0; omega)
    have hw : ∀ x ∈ g, x ∈ wideM m g := fun x hx => (mem_nrm h0).mpr (List.mem_append_left _ hx)
    rw [counts_eq, counts_eq, List.zip_map', List.any_map, Bool.not_eq_true, List.any_eq_false]
    intro k _ z
    have z := of_decide_eq_true z
    have := nSz_mono (k := k) (ss := setsOf m) (f := enough m rs (wideM m g)) (h := enough m rs g) fun s _ => enough_goal hw
    simp only at z
    omega
end
end G30
set_option Elab.async false
set_option linter.all false
set_option maxRecDepth 100000
set_option maxHeartbeats 4000000
set_option autoImplicit false
namespace G30
open PySem PySem.Spec PyProof.Rows L2 LamX StX SlX
section
/-! ### ways -/
theorem had_iff {m : Nat} {rs : Rules} {k : Int} {s : List Int} : s ∈ hadBy m rs k ↔ s ∈ setsOf m ∧ k ∉ s ∧ k ∈ clo m rs s := by
  unfold hadBy
  rw [List.mem_filter, Bool.and_eq_true, Bool.not_eq_true', decide_eq_false_iff_not, decide_eq_true_eq]
theorem way_in {m : Nat} {rs : Rules} {k : Int} : ∀ (n : Nat) (s : List Int), s.length ≤ n → s ∈ hadBy m rs k → ∃ t ∈ waysTo m rs k, ∀ x ∈ t, x ∈ s
  | n, s, hn, hs => by
    by_cases hw : s ∈ waysTo m rs k
    · exact ⟨s, hw, fun x h => h⟩
    · have h1 : (hadBy m rs k).any (fun t => !decide (t = s) && within t s) = true := by
        rw [waysTo, List.mem_filter] at hw
        cases e : (hadBy m rs k).any (fun t => !decide (t = s) && within t s) with
        | true => rfl
        | false => exact absurd ⟨hs, by rw [e]; rfl⟩ hw
      obtain ⟨t, ht, h2⟩ := List.any_eq_true.mp h1
      rw [Bool.and_eq_true, Bool.not_eq_true', decide_eq_false_iff_not] at h2
      have h3 := within_iff.mp h2.2
      have os := mem_setsOf (had_iff.mp hs).1
      have ot := mem_setsOf (had_iff.mp ht).1
      have l1 : t.length < s.length := by
        by_cases l : s.length ≤ t.length
        · exact absurd (asc_full ot.asc os.asc h3 l) h2.1
        · omega
      match n, hn with
      | 0, hn => omega
      | n + 1, hn =>
        obtain ⟨u, hu, h4⟩ := way_in n t (by omega) ht
        exact ⟨u, hu, fun x hx => h3 x (h4 x hx)⟩
theorem have_eq {m : Nat} {rs : Rules} {k : Int} (ho : OkR m rs) {s : List Int} (hs : s ∈ setsOf m) : enough m rs [k] s = haveB m rs k s := by
  have os := mem_setsOf hs
  rw [Bool.eq_iff_iff, enough_iff ho os]
  unfold haveB
  rw [Bool.or_eq_true, decide_eq_true_eq, List.any_eq_true]
  constructor
  · intro h
    have h := h k List.mem_cons_self
    by_cases q : k ∈ s
    · exact .inl q
    · obtain ⟨t, ht, h1⟩ := way_in s.length s (Nat.le_refl _) (had_iff.mpr ⟨hs, q, (mem_clo ho os.rg).mpr h⟩)
      exact .inr ⟨t, ht, within_iff.mpr h1⟩
  · rintro (h | ⟨t, ht, h⟩) x hx <;> rw [List.mem_singleton.mp hx]
    · exact .base h
    · have ht := had_iff.mp (List.mem_filter.mp ht).1
      exact Cl.mono (fun y hy => .base (within_iff.mp h y hy)) ((mem_clo ho (mem_setsOf ht.1).rg).mp ht.2.2)
theorem ways_ok {m : Nat} {rs : Rules} (ho : OkR m rs) : WaysOk m rs := fun k _ => by
  rw [counts_cntL]
  unfold haveM
  congr 1
  exact List.filter_congr fun s hs => have_eq ho hs
/-! ### all sets -/
theorem subs_all : ∀ (m : Nat) (s : List Int), OkS m s → s ∈ subs m
  | 0, s, h => by
    have := h.len
    rw [List.length_eq_zero_iff.mp (show s.length = 0 by omega)]
    exact List.mem_singleton.mpr rfl
  | k + 1, s, h => by
    show s ∈ subs k ++ (subs k).map fun s => s ++ [(k : Int)]
    rw [List.mem_append, List.mem_map]
    by_cases q : (k : Int) ∈ s
    · have ot : OkS k (s.filter fun x => !decide (x = (k : Int))) := by
        refine ⟨h.asc.filter _, fun x hx => h.lo x (List.mem_filter.mp hx).1, fun x hx => ?_⟩
        obtain ⟨h1, h2⟩ := List.mem_filter.mp hx
        have := h.hi x h1
        rw [Bool.not_eq_true', decide_eq_false_iff_not] at h2
        omega
      refine .inr ⟨_, subs_all k _ ot, ?_⟩
      refine asc_uniq ?_ h.asc fun x => ?_
      · refine List.pairwise_append.mpr ⟨ot.asc, List.pairwise_singleton _ _, fun a ha b hb => ?_⟩
        rw [List.mem_singleton.mp hb]
        exact ot.hi a ha
      · rw [List.mem_append, List.mem_filter, List.mem_singleton, Bool.not_eq_true', decide_eq_false_iff_not]
        constructor
        · rintro (⟨h1, _⟩ | h1)
          · exact h1
          · rw [h1]; exact q
        · intro h1
          by_cases e : x = (k : Int)
          · exact .inr e
          · exact .inl ⟨h1, e⟩
    · refine .inl (subs_all k s ⟨h.asc, h.lo, fun x hx => ?_⟩)
      have := h.hi x hx
      have : x ≠ (k : Int) := fun e => q (by rw [← e]; exact hx)
      omega
theorem subs_nd : ∀ m : Nat, (subs m).Nodup
  | 0 => List.nodup_cons.mpr ⟨fun h => (by cases h), List.nodup_nil⟩
  | k + 1 => by
    show (subs k ++ (subs k).map fun s => s ++ [(k : Int)]).Nodup
    refine List.nodup_append.mpr ⟨subs_nd k, ?_, fun a ha b hb e => ?_⟩
    · refine List.Pairwise.map _ (R := (· ≠ ·)) (fun a b h e => h (List.append_cancel_right e)) (subs_nd k)
    · obtain ⟨t, _, rfl⟩ := List.mem_map.mp hb
      have := (mem_subs k a ha).hi k (by rw [e]; exact List.mem_append_right _ (List.mem_singleton.mpr rfl))
      omega
theorem sets_nd (m : Nat) : (setsOf m).Nodup := (perm_subs m).nodup_iff.mpr (subs_nd m)
theorem sets_all {m : Nat} {s : List Int} (h : OkS m s) : s ∈ setsOf m := (perm_subs m).mem_iff.mpr (subs_all m s h)
/-! ### boxes -/
/-- how many sets of size k between lo and hi f holds of -/
def nB (m : Nat) (f : List Int → Bool) (lo hi : List Int) (k : Nat) : Nat := nSz (fun s => (within lo s && within s hi) && f s) k (setsOf m)
theorem nB_split {m : Nat} {f : List Int → Bool} {lo hi : List Int} {x : Int} {k : Nat} (ol : OkS m lo) (hx : x ∈ hi) (h0 : 0 ≤ x ∧ x < m) (hn : x ∉ lo) :
    nB m f lo hi k = nB m f (nrm m (lo ++ [x])) hi k + nB m f lo (hi.filter fun y => !decide (y = x)) k := by
  unfold nB nSz
  rw [List.countP_eq_countP_filter_add (setsOf m) _ (fun s => decide (x ∈ s)), List.countP_filter, List.countP_filter]
  have hl : ∀ s, within (nrm m (lo ++ [x])) s = true ↔ within lo s = true ∧ x ∈ s := fun s => by
    rw [within_iff, within_iff]
    have := snoc_rg ol h0.1 h0.2
    constructor
    · intro h
      exact ⟨fun y hy => h y ((mem_nrm this).mpr (List.mem_append_left _ hy)), h x ((mem_nrm this).mpr (List.mem_append_right _ (List.mem_singleton.mpr rfl)))⟩
    · rintro ⟨h1, h2⟩ y hy
      rcases List.mem_append.mp ((mem_nrm this).mp hy) with e | e
      · exact h1 y e
      · rw [List.mem_singleton.mp e]; exact h2
  have hh : ∀ s, within s (hi.filter fun y => !decide (y = x)) = true ↔ within s hi = true ∧ x ∉ s := fun s => by
    rw [within_iff, within_iff]
    constructor
    · intro h
      exact ⟨fun y hy => (List.mem_filter.mp (h y hy)).1, fun q => by
        have := (List.mem_filter.mp (h x q)).2
        rw [decide_eq_true rfl] at this
        cases this⟩
    · rintro ⟨h1, h2⟩ y hy
      refine List.mem_filter.mpr ⟨h1 y hy, ?_⟩
      rw [decide_eq_false fun e => h2 (by rw [← e]; exact hy)]
      rfl
  congr 1
  · refine List.countP_congr fun s _ => ?_
    simp only [Bool.and_eq_true, hl, decide_eq_true_eq]
    constructor
    · rintro ⟨⟨a, ⟨b, c⟩, d⟩, e⟩; exact ⟨a, ⟨⟨b, e⟩, c⟩, d⟩
    · rintro ⟨a, ⟨⟨b, e⟩, c⟩, d⟩; exact ⟨⟨a, ⟨b, c⟩, d⟩, e⟩
  · refine List.countP_congr fun s _ => ?_
    simp only [Bool.and_eq_true, hh, decide_eq_true_eq, Bool.not_eq_true', decide_eq_false_iff_not]
    constructor
    · rintro ⟨⟨a, ⟨b, c⟩, d⟩, e⟩; exact ⟨a, ⟨b, ⟨c, e⟩⟩, d⟩
    · rintro ⟨a, ⟨b, ⟨c, e⟩⟩, d⟩; exact ⟨⟨a, ⟨b, c⟩, d⟩, e⟩
theorem pascal : ∀ d : Fin 5, ∀ j : Fin 12, chooseI ((d.1 : Int) + 1) ((j.1 : Int) - 6) = chooseI d.1 ((j.1 : Int) - 6 - 1) + chooseI d.1 ((j.1 : Int) - 6) := by decide +kernel
theorem choose0 : ∀ j : Fin 12, chooseI 0 ((j.1 : Int) - 6) = if (j.1 : Int) - 6 = 0 then 1 else 0 := by decide +kernel
theorem box_len {m : Nat} {lo hi : List Int} {x : Int} (ol : OkS m lo) (oh : OkS m hi) (hx : x ∈ hi) (hn : x ∉ lo) : (nrm m (lo ++ [x])).length = lo.length + 1 ∧ (hi.filter fun y => !decide (y = x)).length + 1 = hi.length := by
  have h0 := oh.rg x hx
  have sr := snoc_rg ol h0.1 h0.2
  constructor
  · have nd : (lo ++ [x]).Nodup := List.nodup_append.mpr ⟨ol.nodup, by simp, fun a ha b hb => by rw [List.mem_singleton.mp hb]; rintro rfl; exact hn ha⟩
    have h1 := nodup_sub (lo ++ [x]) (nrm m (lo ++ [x])) nd fun y hy => (mem_nrm sr).mpr hy
    have h2 := nodup_sub (nrm m (lo ++ [x])) (lo ++ [x]) (nrm_ok m _).nodup fun y hy => (mem_nrm sr).mp hy
    rw [List.length_append, List.length_singleton] at h1 h2
    omega
  · have h1 := nodup_sub (x :: hi.filter fun y => !decide (y = x)) hi (List.nodup_cons.mpr ⟨fun q => (by
        have := (List.mem_filter.mp q).2
        rw [decide_eq_true rfl] at this
        cases this), (oh.filter _).nodup⟩) fun y hy => by
          rcases List.mem_cons.mp hy with e | e
          · rw [e]; exact hx
          · exact (List.mem_filter.mp e).1
    have h2 := nodup_sub hi (x :: hi.filter fun y => !decide (y = x)) oh.nodup fun y hy => by
      by_cases e : y = x
      · rw [e]; exact List.mem_cons_self
      · exact List.mem_cons_of_mem _ (List.mem_filter.mpr ⟨hy, by rw [decide_eq_false e]; rfl⟩)
    rw [List.length_cons] at h1 h2
    omega
theorem nB_point {m : Nat} {f : List Int → Bool} {lo : List Int} {k : Nat} (ol : OkS m lo) (hf : f lo = true) : nB m f lo lo k = if k = lo.length then 1 else 0 := by
  unfold nB nSz
  by_cases e : k = lo.length
  · rw [if_pos e]
    have h1 := (sets_nd m).count (a := lo)
    rw [if_pos (sets_all ol)] at h1
    rw [← h1]
    unfold List.count
    refine List.countP_congr fun s hs => ?_
    simp only [Bool.and_eq_true, decide_eq_true_eq, within_iff, beq_iff_eq]
    constructor
    · rintro ⟨_, ⟨a, b⟩, _⟩
      exact asc_uniq (mem_setsOf hs).asc ol.asc fun x => ⟨b x, a x⟩
    · rintro rfl
      exact ⟨e.symm, ⟨fun x h => h, fun x h => h⟩, hf⟩
  · rw [if_neg e, List.countP_eq_zero]
    intro s hs
    simp only [Bool.and_eq_true, decide_eq_true_eq, within_iff]
    rintro ⟨h1, ⟨a, b⟩, _⟩
    have : s = lo := asc_uniq (mem_setsOf hs).asc ol.asc fun x => ⟨b x, a x⟩
    exact e (by rw [← h1, this])
theorem pick {lo hi : List Int} (oa : lo.Pairwise (· < ·)) (ob : hi.Pairwise (· < ·)) (hs : ∀ x ∈ lo, x ∈ hi) (hl : lo.length < hi.length) : (hi.filter fun x => !decide (x ∈ lo)) ≠ [] := fun e => by
  have : lo = hi := asc_uniq oa ob fun x => ⟨hs x, fun hx => by
    by_cases q : x ∈ lo
    · exact q
    · have : x ∈ hi.filter fun x => !decide (x ∈ lo) := List.mem_filter.mpr ⟨hx, by rw [decide_eq_false q]; rfl⟩
      rw [e] at this
      cases this⟩
  rw [this] at hl
  omega
/-- f holds throughout: all sets of that size -/
theorem nB_all {m : Nat} {f : List Int → Bool} (h5 : m ≤ 5) {k : Nat} (hk : k ≤ m) : ∀ (d : Nat) (lo hi : List Int), OkS m lo → OkS m hi → (∀ x ∈ lo, x ∈ hi) → hi.length = lo.length + d → (∀ s, OkS m s → (∀ x ∈ lo, x ∈ s) → f s = true) → (nB m f lo hi k : Int) = chooseI d ((k : Int) - lo.length)
  | 0, lo, hi, ol, oh, hs, hd, hf => by
    have e : lo = hi := asc_full ol.asc oh.asc hs (by omega)
    subst e
    have l1 := ol.len
    rw [nB_point ol (hf lo ol fun x h => h)]
    have := choose0 ⟨6 + k - lo.length, by omega⟩
    rw [show ((6 + k - lo.length : Nat) : Int) - 6 = (k : Int) - lo.length by omega] at this
    show _ = chooseI 0 _
    rw [this]
    by_cases e : k = lo.length
    · rw [if_pos e, if_pos (by omega)]; rfl
    · rw [if_neg e, if_neg (by omega)]; rfl
  | d + 1, lo, hi, ol, oh, hs, hd, hf => by
    have hk1 := headD_mem (pick ol.asc oh.asc hs (by omega))
    generalize (hi.filter fun x => !decide (x ∈ lo)).headD 0 = x at hk1
    obtain ⟨hx, hn⟩ := List.mem_filter.mp hk1
    rw [Bool.not_eq_true', decide_eq_false_iff_not] at hn
    have h0 := oh.rg x hx
    have sr := snoc_rg ol h0.1 h0.2
    obtain ⟨b1, b2⟩ := box_len ol oh hx hn
    have l1 := ol.len
    have l2 := oh.len
    have i1 := nB_all h5 hk d (nrm m (lo ++ [x])) hi (nrm_ok m _) oh (fun y hy => by
      rcases List.mem_append.mp ((mem_nrm sr).mp hy) with e | e
      · exact hs y e
      · rw [List.mem_singleton.mp e]; exact hx) (by omega) fun s os hq => hf s os fun y hy => hq y ((mem_nrm sr).mpr (List.mem_append_left _ hy))
    have i2 := nB_all h5 hk d lo (hi.filter fun y => !decide (y = x)) ol (oh.filter _) (fun y hy => List.mem_filter.mpr ⟨hs y hy, by rw [decide_eq_false fun e => hn (by rw [← e]; exact hy)]; rfl⟩) (by omega) hf
    rw [nB_split ol hx h0 hn, Int.natCast_add, i1, i2, b1]
    have := pascal ⟨d, by omega⟩ ⟨6 + k - lo.length, by omega⟩
    rw [show ((6 + k - lo.length : Nat) : Int) - 6 = (k : Int) - lo.length by omega] at this
    rw [show ((d + 1 : Nat) : Int) = (d : Int) + 1 by omega, this, show ((k : Int) - ((lo.length + 1 : Nat) : Int)) = (k : Int) - lo.length - 1 by omega]
theorem nB_none {m : Nat} {f : List Int → Bool} {lo hi : List Int} {k : Nat} (hf : ∀ s, OkS m s → (∀ x ∈ s, x ∈ hi) → f s = false) : nB m f lo hi k = 0 := by
  unfold nB nSz
  rw [List.countP_eq_zero]
  intro s hs
  simp only [Bool.and_eq_true, decide_eq_true_eq, within_iff]
  rintro ⟨_, ⟨_, b⟩, c⟩
  rw [hf s (mem_setsOf hs) b] at c
  cases c
/-! ### spans -/
/-- what a span adds to the count of size k -/
def conS (k : Nat) (z : List Int × List Int × Bool) : Int := if z.2.2 = true then chooseI ((z.2.1.length : Int) - z.1.length) ((k : Int) - z.1.length) else 0
theorem spans_sum {m : Nat} {rs : Rules} {g : List Int} (ho : OkR m rs) {k : Nat} (hk : k ≤ m) : ∀ (n : Nat) (lo hi : List Int), OkS m lo → OkS m hi → (∀ x ∈ lo, x ∈ hi) → hi.length ≤ lo.length + n → ((spansM m rs g n lo hi).map (conS k)).sum = (nB m (enough m rs g) lo hi k : Int)
  | 0, lo, hi, ol, oh, hs, hn => by
    have e : lo = hi := asc_full ol.asc oh.asc hs (by omega)
    subst e
    unfold spansM
    rw [List.map_singleton, List.sum_singleton]
    unfold conS
    by_cases he : enough m rs g lo = true
    · rw [if_pos he, nB_all ho.m5 hk 0 lo lo ol ol hs rfl fun s os h => enough_mono ho ol os h he]
      show chooseI ((lo.length : Int) - lo.length) _ = chooseI 0 _
      rw [Int.sub_self]
    · rw [if_neg he, nB_none]
      · rfl
      · intro s os h
        cases q : enough m rs g s with
        | false => rfl
        | true => exact absurd (enough_mono ho os ol h q) he
  | n + 1, lo, hi, ol, oh, hs, hn => by
    unfold spansM
    have ln := nodup_sub lo hi ol.nodup hs
    by_cases he : enough m rs g lo = true
    · rw [if_pos he, List.map_singleton, List.sum_singleton]
      unfold conS
      rw [if_pos rfl, nB_all ho.m5 hk (hi.length - lo.length) lo hi ol oh hs (by omega) fun s os h => enough_mono ho ol os h he]
      show chooseI ((hi.length : Int) - lo.length) _ = _
      rw [show ((hi.length - lo.length : Nat) : Int) = (hi.length : Int) - lo.length by omega]
    · rw [if_neg he]
      by_cases hh : enough m rs g hi = true
      · rw [if_pos hh]
        have hk1 := headD_mem (pick ol.asc oh.asc hs (by
          by_cases q : hi.length ≤ lo.length
          · exact absurd (by rw [asc_full ol.asc oh.asc hs q]; exact hh) he
          · omega))
        generalize (hi.filter fun x => !decide (x ∈ lo)).headD 0 = x at hk1
        obtain ⟨hx, hn1⟩ := List.mem_filter.mp hk1
        rw [Bool.not_eq_true', decide_eq_false_iff_not] at hn1
        have h0 := oh.rg x hx
        have sr := snoc_rg ol h0.1 h0.2
        obtain ⟨b1, b2⟩ := box_len ol oh hx hn1
        rw [List.map_append, List.sum_append, spans_sum ho hk n (nrm m (lo ++ [x])) hi (nrm_ok m _) oh (fun y hy => by
          rcases List.mem_append.mp ((mem_nrm sr).mp hy) with e | e
          · exact hs y e
          · rw [List.mem_singleton.mp e]; exact hx) (by omega), spans_sum ho hk n lo (hi.filter fun y => !decide (y = x)) ol (oh.filter _) (fun y hy => List.mem_filter.mpr ⟨hs y hy, by rw [decide_eq_false fun e => hn1 (by rw [← e]; exact hy)]; rfl⟩) (by omega), nB_split ol hx h0 hn1, Int.natCast_add]
      · rw [if_neg hh, List.map_singleton, List.sum_singleton, nB_none]
        · rfl
        · intro s os h
          cases q : enough m rs g s with
          | false => rfl
          | true => exact absurd (enough_mono ho os oh h q) hh
theorem choose_zero : ∀ n : Fin 6, ∀ j : Fin 12, ((j.1 : Int) - 6 < 0 ∨ (n.1 : Int) < (j.1 : Int) - 6) → chooseI n.1 ((j.1 : Int) - 6) = 0 := by decide +kernel
theorem row_get {m : Nat} (h5 : m ≤ 5) {z : List Int × List Int × Bool} (ok : SpOk m z) {acc : List Int} (la : acc.length = m + 1) {k : Nat} (hk : k ≤ m) : (rowS acc z).getD k 0 = acc.getD k 0 + conS k z := by
  have l1 : z.1.length ≤ z.2.1.length := nodup_sub _ _ ok.lo.nodup ok.sub
  have l2 := ok.hi.len
  have key : ∀ n, n ≤ z.2.1.length + 1 - z.1.length → ((List.range n).foldl (cellS z) acc).getD k 0 = acc.getD k 0 + if z.1.length ≤ k ∧ k < z.1.length + n then conS k z else 0 := by
    intro n
    induction n with
    | zero => intro _; rw [if_neg (by omega), Int.add_zero]; rfl
    | succ n ih =>
      intro hn
      have ih := ih (by omega)
      rw [List.range_succ, List.foldl_append, List.foldl_cons, List.foldl_nil]
      have ln : ((List.range n).foldl (cellS z) acc).length = m + 1 := by rw [cells_len, la]
      generalize (List.range n).foldl (cellS z) acc = a at ih ln
      unfold cellS
      by_cases hd : z.2.2 = true
      · rw [if_pos hd, List.getD_eq_getElem?_getD, List.getElem?_set]
        by_cases e : z.1.length + n = k
        · rw [if_pos e, if_pos (by omega), if_pos (by omega), e]
          show a.getD k 0 + _ = _
          rw [ih, if_neg (by omega), Int.add_zero]
          unfold conS
          rw [if_pos hd, ← e, Int.natCast_add]
        · rw [if_neg e, ← List.getD_eq_getElem?_getD, ih]
          by_cases q : z.1.length ≤ k ∧ k < z.1.length + n
          · rw [if_pos q, if_pos (by omega)]
          · rw [if_neg q, if_neg (by omega)]
      · rw [if_neg hd, ih]
        unfold conS
        rw [if_neg hd, ite_self, ite_self]
  unfold rowS
  rw [key _ (Nat.le_refl _)]
  by_cases q : z.1.length ≤ k ∧ k < z.1.length + (z.2.1.length + 1 - z.1.length)
  · rw [if_pos q]
  · rw [if_neg q]
    unfold conS
    split
    · have := choose_zero ⟨z.2.1.length - z.1.length, by omega⟩ ⟨6 + k - z.1.length, by omega⟩
      rw [show ((6 + k - z.1.length : Nat) : Int) - 6 = (k : Int) - z.1.length by omega, show ((z.2.1.length - z.1.length : Nat) : Int) = (z.2.1.length : Int) - z.1.length by omega] at this
      rw [this (by omega)]
    · rfl
theorem acc_get {m : Nat} (h5 : m ≤ 5) {k : Nat} (hk : k ≤ m) : ∀ zs : List (List Int × List Int × Bool), (∀ z ∈ zs, SpOk m z) → (accS m zs).getD k 0 = (zs.map (conS k)).sum := fun zs => by
  refine snoc_ind (motive := fun zs => (∀ z ∈ zs, SpOk m z) → (accS m zs).getD k 0 = (zs.map (conS k)).sum) (fun _ => ?_) (fun zs z ih h => ?_) zs
  · show (List.replicate (m + 1) (0 : Int)).getD k 0 = _
    rw [List.getD_eq_getElem?_getD, List.getElem?_replicate, if_pos (by omega)]
    rfl
  · rw [accS_snoc, row_get h5 (h z (List.mem_append_right _ (List.mem_singleton.mpr rfl))) (accS_len m zs) hk, ih fun t ht => h t (List.mem_append_left _ ht), List.map_append, List.sum_append, List.map_singleton, List.sum_singleton]
theorem nB_full {m : Nat} {f : List Int → Bool} {k : Nat} : nB m f [] (mks m) k = nSz f k (setsOf m) := by
  unfold nB
  refine nSz_congr fun s hs => ?_
  have h1 : within [] s = true := rfl
  have h2 : within s (mks m) = true := within_iff.mpr fun x hx => mem_mks.mpr ((mem_setsOf hs).rg x hx)
  rw [h1, h2]
  rfl
theorem nil_ok (m : Nat) : OkS m [] := ⟨List.Pairwise.nil, fun x hx => by (cases hx), fun x hx => by (cases hx)⟩
theorem spans_ok {m : Nat} {rs : Rules} {g : List Int} (ho : OkR m rs) : SpansOk m rs g := by
  unfold SpansOk
  have ok : ∀ z ∈ spansM m rs g m [] (mks m), SpOk m z := spansM_ok m rs g m [] (mks m) (nil_ok m) (mks_ok m) (fun x hx => by (cases hx))
  rw [counts_eq]
  refine List.ext_getElem? fun k => ?_
  by_cases hk : k ≤ m
  · have h1 := acc_get ho.m5 hk _ ok
    rw [spans_sum ho hk m [] (mks m) (nil_ok m) (mks_ok m) (fun x hx => by (cases hx)) (by rw [mks_len]; exact Nat.le_add_left _ _), nB_full] at h1
    rw [List.getElem?_map, List.getElem?_range (by omega), List.getElem?_eq_getElem (by rw [accS_len]; omega)]
    rw [List.getD_eq_getElem?_getD, List.getElem?_eq_getElem (by rw [accS_len]; omega)] at h1
    exact congrArg some h1.symm
  · rw [List.getElem?_eq_none (by rw [List.length_map, List.length_range]; omega), List.getElem?_eq_none (by rw [accS_len]; omega)]
end
end G30
set_option Elab.async false
set_option linter.all false
set_option maxRecDepth 100000
set_option maxHeartbeats 4000000
set_option autoImplicit false
namespace G30
open PySem PySem.Spec PyProof.Rows L2 LamX StX SlX
section
/-! ### sums -/
theorem sum_add {α : Type} (f g : α → Int) : ∀ l : List α, (l.map fun a => f a + g a).sum = (l.map f).sum + (l.map g).sum
  | [] => rfl
  | a :: l => by
    rw [List.map_cons, List.map_cons, List.map_cons, List.sum_cons, List.sum_cons, List.sum_cons, sum_add f g l]
    omega
theorem sum_zero {α : Type} (f : α → Int) : ∀ l : List α, (∀ a ∈ l, f a = 0) → (l.map f).sum = 0
  | [], _ => rfl
  | a :: l, h => by
    rw [List.map_cons, List.sum_cons, h a List.mem_cons_self, sum_zero f l fun b hb => h b (List.mem_cons_of_mem _ hb)]
    rfl
theorem sum_swap {α β : Type} (f : α → β → Int) (ks : List β) : ∀ l : List α, (l.map fun a => (ks.map fun b => f a b).sum).sum = (ks.map fun b => (l.map fun a => f a b).sum).sum
  | [] => (sum_zero _ ks fun _ _ => rfl).symm
  | a :: l => by
    rw [List.map_cons, List.sum_cons, sum_swap f ks l, ← sum_add]
    rfl
theorem sum_mul {α : Type} (f : α → Int) (c : Int) : ∀ l : List α, (l.map fun a => f a * c).sum = (l.map f).sum * c
  | [] => by show (0 : Int) = 0 * c; rw [Int.zero_mul]
  | a :: l => by
    rw [List.map_cons, List.map_cons, List.sum_cons, List.sum_cons, sum_mul f c l, Int.add_mul]
/-- one member alone counts -/
theorem sum_one {α : Type} (f : α → Int) (t : α) : ∀ l : List α, l.Nodup → t ∈ l → (∀ a ∈ l, a ≠ t → f a = 0) → (l.map f).sum = f t
  | [], _, h, _ => by cases h
  | a :: l, nd, h, z => by
    obtain ⟨n1, n2⟩ := List.nodup_cons.mp nd
    rw [List.map_cons, List.sum_cons]
    rcases List.mem_cons.mp h with e | e
    · subst e
      rw [sum_zero f l fun b hb => z b (List.mem_cons_of_mem _ hb) fun e => n1 (by rw [← e]; exact hb), Int.add_zero]
    · rw [z a List.mem_cons_self (fun q => n1 (by rw [q]; exact e)), sum_one f t l n2 e fun b hb => z b (List.mem_cons_of_mem _ hb), Int.zero_add]
def b2i (b : Bool) : Int := if b = true then 1 else 0
theorem sum_count {α : Type} (p : α → Bool) : ∀ l : List α, (l.map fun a => b2i (p a)).sum = (l.countP p : Int)
  | [] => rfl
  | a :: l => by
    rw [List.map_cons, List.sum_cons, sum_count p l, List.countP_cons, Int.natCast_add]
    unfold b2i
    split
    · exact Int.add_comm _ _
    · exact Int.add_comm _ _
/-! ### chances -/
theorem sum_counts (m : Nat) (rs : Rules) (g : List Int) : (counts m rs g).sum = ((setsOf m).countP (enough m rs g) : Int) := by
  have e : ∀ k, (nSz (enough m rs g) k (setsOf m) : Int) = ((setsOf m).map fun s => b2i (decide (s.length = k) && enough m rs g s)).sum := fun k => (sum_count _ _).symm
  rw [counts_eq, List.map_congr_left fun k _ => e k, sum_swap (fun (k : Nat) (s : List Int) => b2i (decide (s.length = k) && enough m rs g s)), ← sum_count]
  congr 1
  refine List.map_congr_left fun s hs => ?_
  rw [sum_one _ s.length _ List.nodup_range (List.mem_range.mpr (by have := setsOf_len s hs; omega)) fun k _ hk => by rw [decide_eq_false fun e => hk e.symm]; rfl]
  rw [decide_eq_true rfl, Bool.true_and]
theorem chF_sum (f : List Int → Bool) (cs : List Int) : ∀ ss : List (List Int), chF ss f cs = (ss.map fun s => if f s = true then prodI (rowI s cs) else 0).sum := fun ss => by
  refine snoc_ind (motive := fun ss => chF ss f cs = (ss.map fun s => if f s = true then prodI (rowI s cs) else 0).sum) rfl (fun ss s ih => ?_) ss
  rw [chF_snoc, ih, List.map_append, List.sum_append, List.map_singleton, List.sum_singleton]
  split
  · rfl
  · rw [Int.add_zero]
theorem prod_rep (c : Int) : ∀ n : Nat, prodI (List.replicate n c) = c ^ n
  | 0 => (Int.pow_zero c).symm
  | n + 1 => by rw [List.replicate_succ', prodI_snoc, prod_rep c n, Int.pow_succ]
theorem prod_zero : ∀ ns : List Int, (0 : Int) ∈ ns → prodI ns = 0 := fun ns => by
  refine snoc_ind (motive := fun ns => (0 : Int) ∈ ns → prodI ns = 0) (fun h => by cases h) (fun ns n ih h => ?_) ns
  rw [prodI_snoc]
  rcases List.mem_append.mp h with h | h
  · rw [ih h, Int.zero_mul]
  · rw [← List.mem_singleton.mp h, Int.mul_zero]
theorem enI_map (h : Nat → Int) (m : Nat) : enI ((List.range m).map h) = (List.range m).map fun k => (h k, k) := by
  unfold enI
  rw [List.length_map, List.length_range]
  have := List.zip_map' (f := h) (g := id) (l := List.range m)
  rw [List.map_id] at this
  exact this
theorem rowI_map (h : Nat → Int) (m : Nat) (s : List Int) : rowI s ((List.range m).map h) = (List.range m).map fun (k : Nat) => if decide ((k : Int) ∈ s) = true then h k else 12 - h k := by
  unfold rowI
  rw [enI_map, List.map_map]
  rfl
theorem rep_map (c : Int) (m : Nat) : List.replicate m c = (List.range m).map fun _ => c := by
  rw [List.map_const', List.length_range]
theorem row_half (m : Nat) (s : List Int) : rowI s (List.replicate m 6) = List.replicate m 6 := by
  rw [rep_map, rowI_map]
  refine List.map_congr_left fun k _ => ?_
  split
  · rfl
  · rfl
/-- the chances of a mark that is surely there, or surely not -/
def sureM (m : Nat) (t : List Int) : List Int := (mks m).map fun k => if decide (k ∈ t) = true then 12 else 0
theorem row_sure (m : Nat) (s t : List Int) : rowI s (sureM m t) = (List.range m).map fun (k : Nat) => if decide ((k : Int) ∈ s) = decide ((k : Int) ∈ t) then 12 else 0 := by
  unfold sureM mks
  rw [List.map_map, rowI_map]
  refine List.map_congr_left fun k _ => ?_
  show (if decide ((k : Int) ∈ s) = true then (if decide ((k : Int) ∈ t) = true then (12 : Int) else 0) else 12 - if decide ((k : Int) ∈ t) = true then (12 : Int) else 0) = _
  cases decide ((k : Int) ∈ s) <;> cases decide ((k : Int) ∈ t) <;> rfl
theorem row_same (m : Nat) (s : List Int) : prodI (rowI s (sureM m s)) = prodI (List.replicate m 12) := by
  rw [row_sure, rep_map]
  congr 1
  exact List.map_congr_left fun k _ => if_pos rfl
theorem row_diff {m : Nat} {s t : List Int} (os : OkS m s) (ot : OkS m t) (ne : s ≠ t) : prodI (rowI s (sureM m t)) = 0 := by
  refine prod_zero _ ?_
  rw [row_sure]
  by_cases h : ∃ k ∈ List.range m, decide ((k : Int) ∈ s) ≠ decide ((k : Int) ∈ t)
  · obtain ⟨k, hk, h⟩ := h
    exact List.mem_map.mpr ⟨k, hk, if_neg h⟩
  · exfalso
    refine ne (asc_uniq os.asc ot.asc fun x => ?_)
    have key : ∀ x : Int, 0 ≤ x → x < m → (x ∈ s ↔ x ∈ t) := fun x h0 h1 => by
      by_cases q : decide (x ∈ s) = decide (x ∈ t)
      · exact decide_eq_decide.mp q
      · exact absurd ⟨x.toNat, List.mem_range.mpr (by omega), by rw [Int.toNat_of_nonneg h0]; exact q⟩ h
    exact ⟨fun hx => (key x (os.lo x hx) (os.hi x hx)).mp hx, fun hx => (key x (ot.lo x hx) (ot.hi x hx)).mpr hx⟩
structure ChancesOk (m : Nat) (rs : Rules) (g : List Int) : Prop where
  half : (chance m rs g (List.replicate m 6)).1 * ((setsOf m).length : Int) = (chance m rs g (List.replicate m 6)).2 * (counts m rs g).sum
  sure : ∀ t, OkS m t → chance m rs g (sureM m t) = if enough m rs g t = true then (1, 1) else (0, 1)
theorem pow_pos12 (m : Nat) : (0 : Int) < prodI (List.replicate m 12) := by
  rw [prod_rep]
  exact Int.pow_pos (by decide)
theorem chances_ok {m : Nat} {rs : Rules} {g : List Int} : ChancesOk m rs g := by
  have hP := pow_pos12 m
  constructor
  · have ha : chF (setsOf m) (enough m rs g) (List.replicate m 6) = ((setsOf m).countP (enough m rs g) : Int) * 6 ^ m := by
      rw [chF_sum, ← sum_count, ← sum_mul]
      congr 1
      refine List.map_congr_left fun s _ => ?_
      rw [row_half, prod_rep]
      unfold b2i
      split
      · rw [Int.one_mul]
      · rw [Int.zero_mul]
    unfold chance
    simp only
    rw [sum_counts]
    generalize chF (setsOf m) (enough m rs g) (List.replicate m 6) = a at ha
    generalize hN : ((setsOf m).countP (enough m rs g) : Int) = N at ha
    have hP2 : prodI (List.replicate m 12) = 6 ^ m * 2 ^ m := by rw [prod_rep, ← Int.mul_pow]; rfl
    generalize prodI (List.replicate m 12) = p at hP hP2
    have hG : 0 < (Int.gcd a p : Int) := by
      have : 0 < Int.gcd a p := Int.gcd_pos_of_ne_zero_right _ (by omega)
      omega
    have h1 : a / (Int.gcd a p : Int) * (Int.gcd a p : Int) = a := Int.ediv_mul_cancel (Int.gcd_dvd_left a p)
    have h2 : p / (Int.gcd a p : Int) * (Int.gcd a p : Int) = p := Int.ediv_mul_cancel (Int.gcd_dvd_right a p)
    generalize a / (Int.gcd a p : Int) = x at h1
    generalize p / (Int.gcd a p : Int) = y at h2
    generalize (Int.gcd a p : Int) = G at hG h1 h2
    rw [len_setsOf]
    refine Int.eq_of_mul_eq_mul_right (show G ≠ 0 by omega) ?_
    have e : ((2 ^ m : Nat) : Int) = 2 ^ m := by rw [Int.natCast_pow]; rfl
    rw [e]
    calc x * 2 ^ m * G = x * G * 2 ^ m := by rw [Int.mul_right_comm]
      _ = N * 6 ^ m * 2 ^ m := by rw [h1, ha]
      _ = p * N := by rw [hP2, Int.mul_assoc, Int.mul_comm]
      _ = y * N * G := by rw [← h2, Int.mul_right_comm]
  · intro t ot
    have ha : chF (setsOf m) (enough m rs g) (sureM m t) = if enough m rs g t = true then prodI (List.replicate m 12) else 0 := by
      rw [chF_sum, sum_one _ t _ (sets_nd m) (sets_all ot) fun s hs ne => by
        rw [row_diff (mem_setsOf hs) ot ne, ite_self], row_same]
    unfold chance
    rw [ha]
    generalize prodI (List.replicate m 12) = p at hP
    have h0 : (p.natAbs : Int) = p := Int.natAbs_of_nonneg (Int.le_of_lt hP)
    split
    · rw [Int.gcd_self, h0, Int.ediv_self (by omega)]
    · rw [Int.gcd_zero_left, h0, Int.ediv_self (by omega), Int.zero_ediv]
end
end G30
set_option Elab.async false
set_option linter.all false
set_option maxRecDepth 100000
set_option maxHeartbeats 4000000
set_option autoImplicit false
namespace G30
open PySem PySem.Spec PyProof.Rows L2 LamX StX SlX
section
/-! ### shares -/
theorem totF_sum (m : Nat) : ∀ ss : List (List Int), totF m ss = (ss.map (wgt m)).sum := fun ss => by
  refine snoc_ind (motive := fun ss => totF m ss = (ss.map (wgt m)).sum) rfl (fun ss s ih => ?_) ss
  rw [totF_snoc, ih, List.map_append, List.sum_append, List.map_singleton, List.sum_singleton]
theorem sum_filter {α : Type} (p : α → Bool) (f : α → Int) : ∀ l : List α, ((l.filter p).map f).sum = (l.map fun a => if p a = true then f a else 0).sum
  | [] => rfl
  | a :: l => by
    rw [List.filter_cons, List.map_cons, List.sum_cons]
    by_cases h : p a = true
    · rw [if_pos h, if_pos h, List.map_cons, List.sum_cons, sum_filter p f l]
    · rw [if_neg h, if_neg h, sum_filter p f l, Int.zero_add]
theorem sum_perm {α : Type} (f : α → Int) {l l' : List α} (h : l.Perm l') : (l.map f).sum = (l'.map f).sum := by
  induction h with
  | nil => rfl
  | cons a _ ih => rw [List.map_cons, List.map_cons, List.sum_cons, List.sum_cons, ih]
  | swap a b l => rw [List.map_cons, List.map_cons, List.map_cons, List.map_cons, List.sum_cons, List.sum_cons, List.sum_cons, List.sum_cons]; omega
  | trans _ _ h1 h2 => rw [h1, h2]
/-- the set with a mark more -/
abbrev more (m : Nat) (s : List Int) (k : Int) : List Int := nrm m (s ++ [k])
theorem mem_more {m : Nat} {s : List Int} {k x : Int} (os : OkS m s) (h0 : 0 ≤ k) (h1 : k < m) : x ∈ more m s k ↔ x ∈ s ∨ x = k := by
  rw [mem_nrm (snoc_rg os h0 h1), List.mem_append, List.mem_singleton]
theorem more_len {m : Nat} {s : List Int} {k : Int} (os : OkS m s) (h0 : 0 ≤ k) (h1 : k < m) (hk : k ∉ s) : (more m s k).length = s.length + 1 := (box_len os (mks_ok m) (mem_mks.mpr ⟨h0, h1⟩) hk).1
/-- the sets without k, k added: the sets with k -/
theorem more_perm {m : Nat} {k : Int} (h0 : 0 ≤ k) (h1 : k < m) : (((setsOf m).filter fun s => !decide (k ∈ s)).map fun s => more m s k).Perm ((setsOf m).filter fun s => decide (k ∈ s)) := by
  have hin : ∀ s, s ∈ (setsOf m).filter (fun s => !decide (k ∈ s)) → OkS m s ∧ k ∉ s := fun s hs => by
    obtain ⟨a, b⟩ := List.mem_filter.mp hs
    rw [Bool.not_eq_true', decide_eq_false_iff_not] at b
    exact ⟨mem_setsOf a, b⟩
  refine (List.perm_ext_iff_of_nodup ?_ ((sets_nd m).filter _)).mpr fun t => ?_
  · have nd := (sets_nd m).filter fun s => !decide (k ∈ s)
    rw [List.nodup_iff_pairwise_ne, List.pairwise_map]
    refine nd.imp_of_mem fun {a b} ha hb ne e => ne ?_
    obtain ⟨oa, ka⟩ := hin a ha
    obtain ⟨ob, kb⟩ := hin b hb
    refine asc_uniq oa.asc ob.asc fun x => ?_
    have hx : x ∈ more m a k ↔ x ∈ more m b k := by rw [e]
    rw [mem_more oa h0 h1, mem_more ob h0 h1] at hx
    constructor
    · intro h
      rcases hx.mp (.inl h) with q | q
      · exact q
      · exact absurd (by rw [← q]; exact h) ka
    · intro h
      rcases hx.mpr (.inl h) with q | q
      · exact q
      · exact absurd (by rw [← q]; exact h) kb
  · rw [List.mem_map, List.mem_filter, decide_eq_true_eq]
    constructor
    · rintro ⟨s, hs, rfl⟩
      exact ⟨sets_all (nrm_ok m _), (mem_more (hin s hs).1 h0 h1).mpr (.inr rfl)⟩
    · rintro ⟨ht, hk⟩
      have ot := mem_setsOf ht
      have os := ot.filter fun x => !decide (x = k)
      have nk : k ∉ t.filter fun x => !decide (x = k) := fun q => by
        have := (List.mem_filter.mp q).2
        rw [decide_eq_true rfl] at this
        cases this
      refine ⟨t.filter fun x => !decide (x = k), List.mem_filter.mpr ⟨sets_all os, by rw [decide_eq_false nk]; rfl⟩, asc_uniq (nrm_ok m _).asc ot.asc fun x => ?_⟩
      rw [mem_more os h0 h1, List.mem_filter, Bool.not_eq_true', decide_eq_false_iff_not]
      constructor
      · rintro (h | h)
        · exact h.1
        · rw [h]; exact hk
      · intro h
        by_cases e : x = k
        · exact .inr e
        · exact .inl ⟨h, e⟩
def wN (m j : Nat) : Int := fact j * fact (m - j - 1)
theorem swing_term {m : Nat} {rs : Rules} {g : List Int} (ho : OkR m rs) {k : Int} (h0 : 0 ≤ k) (h1 : k < m) {s : List Int} (os : OkS m s) :
    (if swingB m rs g k s = true then wgt m s else 0) = (if (!decide (k ∈ s)) = true then b2i (enough m rs g (more m s k)) * wN m s.length else 0) + (if (!decide (k ∈ s)) = true then -(b2i (enough m rs g s) * wN m s.length) else 0) := by
  unfold swingB
  by_cases hk : k ∈ s
  · rw [decide_eq_true hk]
    rfl
  · rw [decide_eq_false hk]
    have hm : enough m rs g s = true → enough m rs g (more m s k) = true := enough_mono ho os (nrm_ok m _) fun x hx => (mem_more os h0 h1).mpr (.inl hx)
    have hw : wgt m s = wN m s.length := rfl
    rw [hw]
    cases e1 : enough m rs g s <;> cases e2 : enough m rs g (more m s k)
    · show (0 : Int) = 0 * _ + -(0 * _); rw [Int.zero_mul]; rfl
    · show _ = 1 * _ + -(0 * wN m s.length); rw [Int.zero_mul, Int.one_mul]; exact (Int.add_zero _).symm
    · have := hm e1; rw [e2] at this; cases this
    · show (0 : Int) = 1 * _ + -(1 * _); rw [Int.one_mul]; omega
theorem count_in {m : Nat} {t : List Int} (ot : OkS m t) : (mks m).countP (fun k => decide (k ∈ t)) = t.length := by
  rw [List.countP_eq_length_filter]
  congr 1
  exact asc_uniq (nrm_ok m t).asc ot.asc fun x => mem_nrm ot.rg
theorem sum_const_in {m : Nat} {t : List Int} (ot : OkS m t) (c : Int) : ((mks m).map fun k => if decide (k ∈ t) = true then c else 0).sum = t.length * c := by
  rw [← count_in ot, ← sum_count, ← sum_mul]
  congr 1
  refine List.map_congr_left fun k _ => ?_
  unfold b2i
  split
  · rw [Int.one_mul]
  · rw [Int.zero_mul]
theorem sum_const_out {m : Nat} {t : List Int} (ot : OkS m t) (c : Int) : ((mks m).map fun k => if (!decide (k ∈ t)) = true then c else 0).sum = ((m : Int) - t.length) * c := by
  have h1 := sum_const_in ot c
  have h2 : ((mks m).map fun _ => c).sum = (m : Int) * c := by
    have := sum_mul (fun _ => (1 : Int)) c (mks m)
    rw [ones_sum, mks_len] at this
    rw [← this]
    simp only [Int.one_mul]
  have h3 := sum_add (fun k => if decide (k ∈ t) = true then c else 0) (fun k => if (!decide (k ∈ t)) = true then c else 0) (mks m)
  have h4 : ((mks m).map fun k => (if decide (k ∈ t) = true then c else 0) + (if (!decide (k ∈ t)) = true then c else 0)) = (mks m).map fun _ => c := List.map_congr_left fun k _ => by
    cases decide (k ∈ t)
    · exact Int.zero_add c
    · exact Int.add_zero c
  rw [h4, h2, h1] at h3
  rw [Int.sub_mul]
  omega
theorem coef : ∀ m : Fin 6, ∀ j : Fin 6, 0 < m.1 → j.1 ≤ m.1 → (j.1 : Int) * wN m.1 (j.1 - 1) - ((m.1 : Int) - j.1) * wN m.1 j.1 = (if j.1 = m.1 then fact m.1 else 0) + (if j.1 = 0 then -fact m.1 else 0) := by decide +kernel
theorem wh_len {m : Nat} {s : List Int} (os : OkS m s) (h : s.length = m) : s = mks m := asc_full os.asc (mks_asc m) (fun x hx => mem_mks.mpr (os.rg x hx)) (by rw [mks_len, h]; exact Nat.le_refl _)
theorem enough_all {m : Nat} {rs : Rules} {g : List Int} (ho : OkR m rs) (hg : OkS m g) : enough m rs g (mks m) = true := (enough_iff ho (mks_ok m)).mpr fun x hx => .base (mem_mks.mpr (hg.rg x hx))
/-- all swings together -/
theorem swings_tot {m : Nat} {rs : Rules} {g : List Int} (ho : OkR m rs) (hg : OkS m g) : ((mks m).map fun k => totF m (swingsOf m rs g k)).sum = fact m * (1 - b2i (enough m rs g [])) := by
  have e1 : ∀ k ∈ mks m, totF m (swingsOf m rs g k) = ((setsOf m).map fun t => if decide (k ∈ t) = true then b2i (enough m rs g t) * wN m (t.length - 1) else 0).sum + ((setsOf m).map fun s => if (!decide (k ∈ s)) = true then -(b2i (enough m rs g s) * wN m s.length) else 0).sum := by
    intro k hk
    obtain ⟨h0, h1⟩ := mem_mks.mp hk
    rw [totF_sum]
    unfold swingsOf
    rw [sum_filter, List.map_congr_left fun s hs => swing_term ho h0 h1 (mem_setsOf hs), sum_add]
    congr 1
    rw [← sum_filter, ← sum_filter (fun t => decide (k ∈ t)) (fun t => b2i (enough m rs g t) * wN m (t.length - 1)), ← sum_perm _ (more_perm h0 h1), List.map_map]
    congr 1
    refine List.map_congr_left fun s hs => ?_
    obtain ⟨a, b⟩ := List.mem_filter.mp hs
    rw [Bool.not_eq_true', decide_eq_false_iff_not] at b
    show _ = b2i (enough m rs g (more m s k)) * wN m ((more m s k).length - 1)
    rw [more_len (mem_setsOf a) h0 h1 b, Nat.add_sub_cancel]
  rw [List.map_congr_left e1, sum_add, sum_swap (fun (k : Int) (t : List Int) => if decide (k ∈ t) = true then b2i (enough m rs g t) * wN m (t.length - 1) else 0), sum_swap (fun (k : Int) (s : List Int) => if (!decide (k ∈ s)) = true then -(b2i (enough m rs g s) * wN m s.length) else 0), ← sum_add]
  have e2 : ∀ s ∈ setsOf m, (((mks m).map fun k => if decide (k ∈ s) = true then b2i (enough m rs g s) * wN m (s.length - 1) else 0).sum + ((mks m).map fun k => if (!decide (k ∈ s)) = true then -(b2i (enough m rs g s) * wN m s.length) else 0).sum)
      = (if s.length = m then b2i (enough m rs g s) * fact m else 0) + (if s.length = 0 then -(b2i (enough m rs g s) * fact m) else 0) := by
    intro s hs
    have os := mem_setsOf hs
    have h5 := ho.m5
    have l := os.len
    rw [sum_const_in os, sum_const_out os]
    have c := coef ⟨m, by omega⟩ ⟨s.length, by omega⟩ ho.m0 l
    simp only at c
    unfold b2i
    split
    · rw [Int.one_mul, Int.one_mul, Int.one_mul, Int.mul_neg, ← Int.sub_eq_add_neg]
      exact c
    · rw [Int.zero_mul, Int.zero_mul, Int.zero_mul, Int.neg_zero, Int.mul_zero, Int.mul_zero, ite_self, ite_self]
  rw [List.map_congr_left e2, sum_add, sum_one _ (mks m) _ (sets_nd m) (sets_all (mks_ok m)) fun s hs ne => if_neg fun q => ne (wh_len (mem_setsOf hs) q), sum_one _ [] _ (sets_nd m) (sets_all (nil_ok m)) fun s hs ne => if_neg fun q => ne (List.length_eq_zero_iff.mp q), mks_len, if_pos rfl, if_pos (List.length_nil), enough_all ho hg]
  show 1 * fact m + _ = _
  rw [Int.one_mul, Int.mul_sub, Int.mul_one, Int.mul_comm (fact m) (b2i _)]
  omega
theorem fact_pos5 {m : Nat} (h : m ≤ 5) : 0 < fact m := (fact_pos ⟨m, by omega⟩).1
theorem share_eqs {m : Nat} {rs : Rules} {g : List Int} (h5 : m ≤ 5) (k : Int) : ∃ G : Int, 0 < G ∧ (shareP m rs g k).1 * G = totF m (swingsOf m rs g k) ∧ (shareP m rs g k).2 * G = fact m := by
  have f1 := fact_pos5 h5
  refine ⟨(Int.gcd (totF m (swingsOf m rs g k)) (fact m) : Int), ?_, Int.ediv_mul_cancel (Int.gcd_dvd_left _ _), Int.ediv_mul_cancel (Int.gcd_dvd_right _ _)⟩
  have : 0 < Int.gcd (totF m (swingsOf m rs g k)) (fact m) := Int.gcd_pos_of_ne_zero_right _ (by omega)
  omega
theorem sumS_tot {m : Nat} {rs : Rules} {g : List Int} (h5 : m ≤ 5) : ∀ ks : List Int, (sumS (ks.map (shareP m rs g))).1 * fact m = (sumS (ks.map (shareP m rs g))).2 * (ks.map fun k => totF m (swingsOf m rs g k)).sum := fun ks => by
  refine snoc_ind (motive := fun ks => (sumS (ks.map (shareP m rs g))).1 * fact m = (sumS (ks.map (shareP m rs g))).2 * (ks.map fun k => totF m (swingsOf m rs g k)).sum) (by show (0 : Int) * _ = 1 * 0; rw [Int.zero_mul]; rfl) (fun ks k ih => ?_) ks
  rw [List.map_append, List.map_append, List.map_singleton, List.map_singleton, sumS_snoc, List.sum_append, List.sum_singleton]
  obtain ⟨G, hG, h1, h2⟩ := share_eqs (rs := rs) (g := g) h5 k
  simp only
  generalize (sumS (ks.map (shareP m rs g))).1 = a at ih
  generalize (sumS (ks.map (shareP m rs g))).2 = b at ih
  generalize (ks.map fun k => totF m (swingsOf m rs g k)).sum = T at ih
  generalize (shareP m rs g k).1 = x at h1
  generalize (shareP m rs g k).2 = y at h2
  rw [← h1]
  rw [Int.add_mul, Int.mul_add, Int.mul_right_comm, ih]
  congr 1
  · exact Int.mul_right_comm _ _ _
  · rw [← h2]
    simp only [Int.mul_comm, Int.mul_left_comm, Int.mul_assoc]
theorem share_zero {m : Nat} {rs : Rules} {g : List Int} (h5 : m ≤ 5) (k : Int) : (shareP m rs g k).1 = 0 ↔ (swingsOf m rs g k).length = 0 := by
  obtain ⟨G, hG, h1, _⟩ := share_eqs (rs := rs) (g := g) h5 k
  constructor
  · intro e
    rw [e, Int.zero_mul, totF_sum] at h1
    have hp : ∀ ss : List (List Int), (∀ s ∈ ss, s.length ≤ 5) → 0 ≤ (ss.map (wgt m)).sum ∧ ((ss.map (wgt m)).sum = 0 → ss.length = 0) := fun ss => by
      induction ss with
      | nil => exact fun _ => ⟨Int.le_refl _, fun _ => rfl⟩
      | cons s ss ih =>
        intro h
        have ih := (ih fun t ht => h t (List.mem_cons_of_mem _ ht)).1
        have h2 := h s List.mem_cons_self
        have f1 := fact_pos ⟨s.length, by omega⟩
        have f2 := fact_pos ⟨m - s.length - 1, by omega⟩
        have : 0 < wgt m s := Int.mul_pos f1.1 f2.1
        rw [List.map_cons, List.sum_cons]
        exact ⟨by omega, fun q => by omega⟩
    exact (hp _ fun s hs => Nat.le_trans (mem_setsOf (List.mem_filter.mp hs).1).len h5).2 h1.symm
  · intro e
    rw [List.length_eq_zero_iff.mp e] at h1
    have h1 : (shareP m rs g k).1 * G = 0 := h1
    rcases Int.mul_eq_zero.mp h1 with q | q
    · exact q
    · omega
theorem shares_many {m : Nat} {rs : Rules} {g : List Int} (h5 : m ≤ 5) : ∀ ks : List Int, (((ks.map (shareP m rs g)).filter fun z => decide (0 < z.1)).length : Int) ≤ (ks.map fun k => ((swingsOf m rs g k).length : Int)).sum
  | [] => Int.le_refl _
  | k :: ks => by
    have ih := shares_many (rs := rs) (g := g) h5 ks
    rw [List.map_cons, List.map_cons, List.filter_cons, List.sum_cons]
    split
    · next h =>
      have h := of_decide_eq_true h
      have : (swingsOf m rs g k).length ≠ 0 := fun q => by
        have := (share_zero h5 k).mpr q
        omega
      rw [List.length_cons]
      omega
    · omega
theorem last_eq {m : Nat} {rs : Rules} {g : List Int} (ho : OkR m rs) (hg : OkS m g) : nSz (enough m rs g) m (setsOf m) = 1 := by
  have h1 := (sets_nd m).count (a := mks m)
  rw [if_pos (sets_all (mks_ok m))] at h1
  rw [← h1]
  unfold nSz List.count
  refine List.countP_congr fun s hs => ?_
  simp only [Bool.and_eq_true, decide_eq_true_eq, beq_iff_eq]
  constructor
  · rintro ⟨h, _⟩
    exact wh_len (mem_setsOf hs) h
  · rintro rfl
    exact ⟨mks_len m, enough_all ho hg⟩
theorem atI_last {α : Type} {xs : List α} {n : Nat} (h : xs.length = n + 1) : atI xs (-1) = xs[n]? := by
  unfold atI ixN
  rw [if_neg (by omega), if_pos (by omega), Option.bind_some, h]
  congr 1
  omega
theorem counts_at {m : Nat} {rs : Rules} {g : List Int} {k : Nat} (hk : k ≤ m) : (counts m rs g)[k]? = some (nSz (enough m rs g) k (setsOf m) : Int) := cntF_get m _ _ setsOf_len k hk
theorem shares_ok {m : Nat} {rs : Rules} {g : List Int} (ho : OkR m rs) (hg : OkS m g) : SharesOk m rs g := by
  have h5 := ho.m5
  have f1 := fact_pos5 h5
  constructor
  · have h := sumS_tot (rs := rs) (g := g) h5 (mks m)
    rw [swings_tot ho hg] at h
    show (sumS ((mks m).map (shareP m rs g))).1 = if _ then _ else (sumS ((mks m).map (shareP m rs g))).2
    generalize (sumS ((mks m).map (shareP m rs g))).1 = a at h
    generalize (sumS ((mks m).map (shareP m rs g))).2 = b at h
    refine Int.eq_of_mul_eq_mul_right (show fact m ≠ 0 by omega) ?_
    rw [h]
    unfold b2i
    split
    · rw [Int.sub_self, Int.mul_zero, Int.mul_zero, Int.zero_mul]
    · rw [Int.sub_zero, Int.mul_one]
  · unfold shares swings
    rw [List.map_map, List.map_map]
    refine List.map_congr_left fun k _ => ?_
    show decide ((shareP m rs g k).1 = 0) = decide (((swingsOf m rs g k).length : Int) = 0)
    refine decide_eq_decide.mpr ((share_zero h5 k).trans ?_)
    omega
  · rw [atI_last (n := m) (by rw [List.length_map, counts_len]), List.getElem?_map, counts_at (Nat.le_refl m), last_eq ho hg]
    rfl
  · exact shares_many h5 (mks m)
end
end G30
set_option Elab.async false
set_option linter.all false
set_option maxRecDepth 100000
set_option maxHeartbeats 4000000
set_option autoImplicit false
namespace G30
open PySem PySem.Spec PyProof.Rows L2 LamX StX SlX
section
/-! ### closed sets -/
theorem shut_iff {rs : Rules} {c : List Int} : isShut rs c = true ↔ ∀ r ∈ rs, (∀ x ∈ r.1, x ∈ c) → ∀ x ∈ r.2, x ∈ c := by
  unfold isShut
  rw [List.all_eq_true]
  constructor
  · intro h r hr h1
    exact within_iff.mp (h r (List.mem_filter.mpr ⟨hr, within_iff.mpr h1⟩))
  · intro h r hr
    obtain ⟨h1, h2⟩ := List.mem_filter.mp hr
    exact within_iff.mpr (h r h1 (within_iff.mp h2))
theorem Cl.in {rs : Rules} {c s : List Int} (h : isShut rs c = true) (hs : ∀ x ∈ s, x ∈ c) {x : Int} (q : Cl rs s x) : x ∈ c := by
  induction q with
  | base z => exact hs _ z
  | step h1 _ h3 ih => exact shut_iff.mp h _ h1 ih _ h3
theorem clo_shut {m : Nat} {rs : Rules} {s : List Int} (ho : OkR m rs) (hs : ∀ x ∈ s, 0 ≤ x ∧ x < m) : isShut rs (clo m rs s) = true :=
  shut_iff.mpr fun r hr h x hx => (mem_clo ho hs).mpr (.step hr (fun y hy => (mem_clo ho hs).mp (h y hy)) hx)
theorem clo_whole {m : Nat} {rs : Rules} {s : List Int} : enough m rs (mks m) s = true ↔ clo m rs s = mks m := by
  unfold enough
  rw [within_iff]
  constructor
  · intro h
    exact asc_uniq (clo_ok m rs s).asc (mks_asc m) fun x => ⟨fun q => mem_mks.mpr ((clo_ok m rs s).rg x q), h x⟩
  · intro h x hx
    rw [h]
    exact hx
/-! ### geometries -/
theorem geo_pair {m : Nat} {rs : Rules} (hw : isGeo m rs = true) {c : List Int} (oc : OkS m c) (hc : isShut rs c = true) {a b : Int} (ha : a ∈ restM m c) (hb : b ∈ restM m c) (lt : a < b) : b ∈ clo m rs (c ++ [a]) → a ∈ clo m rs (c ++ [b]) → False := fun h1 h2 => by
  have := noPair_iff.mp (List.all_eq_true.mp hw c (List.mem_filter.mpr ⟨sets_all oc, hc⟩)) a ha b hb
  unfold badG arG at this
  rw [decide_eq_true lt, decide_eq_true h1, decide_eq_true h2] at this
  cases this
/-- below the whole: a mark without which the whole is closed -/
theorem geo_peel {m : Nat} {rs : Rules} (ho : OkR m rs) (hw : isGeo m rs = true) : ∀ (n : Nat) (c : List Int), OkS m c → isShut rs c = true → c ≠ mks m → (restM m c).length ≤ n → ∃ k ∈ mks m, k ∉ c ∧ isShut rs ((mks m).filter fun x => !decide (x = k)) = true
  | n, c, oc, hc, hne, hn => by
    have hin : ∀ x ∈ mks m, x ∉ c → x ∈ restM m c := fun x hx q => List.mem_filter.mpr ⟨hx, by rw [decide_eq_false q]; rfl⟩
    have up : ∀ a, a ∈ restM m c → clo m rs (c ++ [a]) ≠ mks m → ∃ k ∈ mks m, k ∉ c ∧ isShut rs ((mks m).filter fun x => !decide (x = k)) = true := fun a ha hd => by
      obtain ⟨a0, a1, a2⟩ := mem_restM ha
      have sr := snoc_rg oc a0 a1
      have hsub : ∀ x ∈ c ++ [a], x ∈ clo m rs (c ++ [a]) := fun x hx => (mem_clo ho sr).mpr (.base hx)
      have hlt : (restM m (clo m rs (c ++ [a]))).length < (restM m c).length := by
        have := nodup_sub (a :: restM m (clo m rs (c ++ [a]))) (restM m c) (List.nodup_cons.mpr ⟨fun q => (mem_restM q).2.2 (hsub a (List.mem_append_right _ (List.mem_singleton.mpr rfl))), restM_nd m _⟩) fun y hy => by
          rcases List.mem_cons.mp hy with e | e
          · rw [e]; exact ha
          · obtain ⟨y0, y1, y2⟩ := mem_restM e
            exact hin y (mem_mks.mpr ⟨y0, y1⟩) fun q => y2 (hsub y (List.mem_append_left _ q))
        rw [List.length_cons] at this
        omega
      match n, hn with
      | 0, hn => omega
      | n + 1, hn =>
        obtain ⟨k, hk, h1, h2⟩ := geo_peel ho hw n (clo m rs (c ++ [a])) (clo_ok m rs _) (clo_shut ho sr) hd (by omega)
        exact ⟨k, hk, fun q => h1 (hsub k (List.mem_append_left _ q)), h2⟩
    have asc : (restM m c).Pairwise (· < ·) := (mks_asc m).filter _
    cases hr : restM m c with
    | nil =>
      refine absurd (asc_uniq oc.asc (mks_asc m) fun x => ⟨fun q => mem_mks.mpr (oc.rg x q), fun q => ?_⟩) hne
      by_cases z : x ∈ c
      · exact z
      · have := hin x q z
        rw [hr] at this
        cases this
    | cons a r =>
      have ha : a ∈ restM m c := by rw [hr]; exact List.mem_cons_self
      obtain ⟨a0, a1, a2⟩ := mem_restM ha
      cases r with
      | nil =>
        have e : c = (mks m).filter fun x => !decide (x = a) := asc_uniq oc.asc ((mks_asc m).filter _) fun x => by
          rw [List.mem_filter, Bool.not_eq_true', decide_eq_false_iff_not]
          constructor
          · intro q
            exact ⟨mem_mks.mpr (oc.rg x q), fun e => a2 (by rw [← e]; exact q)⟩
          · rintro ⟨q1, q2⟩
            by_cases z : x ∈ c
            · exact z
            · have := hin x q1 z
              rw [hr] at this
              exact absurd (List.mem_singleton.mp this) q2
        exact ⟨a, mem_mks.mpr ⟨a0, a1⟩, a2, by rw [← e]; exact hc⟩
      | cons b r =>
        have hb : b ∈ restM m c := by rw [hr]; exact List.mem_cons_of_mem _ List.mem_cons_self
        obtain ⟨b0, b1, _⟩ := mem_restM hb
        have lt : a < b := by
          rw [hr] at asc
          exact (List.pairwise_cons.mp asc).1 b List.mem_cons_self
        by_cases d1 : clo m rs (c ++ [a]) = mks m
        · by_cases d2 : clo m rs (c ++ [b]) = mks m
          · exact (geo_pair hw oc hc ha hb lt (by rw [d1]; exact mem_mks.mpr ⟨b0, b1⟩) (by rw [d2]; exact mem_mks.mpr ⟨a0, a1⟩)).elim
          · exact up b hb d2
        · exact up a ha d1
theorem ends_iff {m : Nat} {rs : Rules} {k : Int} : k ∈ endsM rs (mks m) ↔ k ∈ mks m ∧ isShut rs ((mks m).filter fun x => !decide (x = k)) = true := by
  unfold endsM
  rw [List.mem_filter]
theorem geo_span {m : Nat} {rs : Rules} (ho : OkR m rs) (hw : isGeo m rs = true) {s : List Int} (os : OkS m s) : enough m rs (mks m) s = true ↔ ∀ k ∈ endsM rs (mks m), k ∈ s := by
  constructor
  · intro h k hk
    obtain ⟨h1, h2⟩ := ends_iff.mp hk
    by_cases q : k ∈ s
    · exact q
    · have := Cl.in h2 (fun x hx => List.mem_filter.mpr ⟨mem_mks.mpr (os.rg x hx), by rw [decide_eq_false fun e => q (by rw [← e]; exact hx)]; rfl⟩) ((enough_iff ho os).mp h k h1)
      have := (List.mem_filter.mp this).2
      rw [decide_eq_true rfl] at this
      cases this
  · intro h
    rw [clo_whole]
    by_cases q : clo m rs s = mks m
    · exact q
    · obtain ⟨k, hk, h1, h2⟩ := geo_peel ho hw _ (clo m rs s) (clo_ok m rs s) (clo_shut ho os.rg) q (Nat.le_refl _)
      exact absurd ((mem_clo ho os.rg).mpr (.base (h k (ends_iff.mpr ⟨hk, h2⟩)))) h1
theorem alt_due : ∀ m : Fin 6, ∀ e : Fin 6, e.1 ≤ m.1 → altI (dueM m.1 e.1) = if decide ((e.1 : Int) = m.1) = true then (if decide ((m.1 : Int) % 2 = 0) = true then 1 else -1) else 0 := by decide +kernel
theorem ends_ok {m : Nat} {rs : Rules} : OkS m (endsM rs (mks m)) := (mks_ok m).filter _
theorem geo_counts {m : Nat} {rs : Rules} (ho : OkR m rs) (hw : isGeo m rs = true) : counts m rs (mks m) = dueM m (endsM rs (mks m)).length := by
  rw [counts_eq]
  unfold dueM
  refine List.map_congr_left fun k hk => ?_
  have hk := List.mem_range.mp hk
  have le := (ends_ok (m := m) (rs := rs)).len
  have h1 := nB_all (f := fun _ => true) ho.m5 (k := k) (by omega) (m - (endsM rs (mks m)).length) (endsM rs (mks m)) (mks m) ends_ok (mks_ok m) (fun x hx => (ends_iff.mp hx).1) (by rw [mks_len]; omega) fun _ _ _ => rfl
  have h2 : nB m (fun _ => true) (endsM rs (mks m)) (mks m) k = nSz (enough m rs (mks m)) k (setsOf m) := by
    unfold nB
    refine nSz_congr fun s hs => ?_
    have os := mem_setsOf hs
    have w : within s (mks m) = true := within_iff.mpr fun x hx => mem_mks.mpr (os.rg x hx)
    rw [w, Bool.and_true, Bool.and_true, Bool.eq_iff_iff, geo_span ho hw os, within_iff]
  rw [← h2, h1]
  congr 1
  · omega
  · omega
/-! ### exchange -/
theorem ex_pair {m : Nat} {rs : Rules} (ho : OkR m rs) (hw : hasEx m rs = true) {A : List Int} (hA : ∀ x ∈ A, 0 ≤ x ∧ x < m) {a b : Int} (ha : 0 ≤ a ∧ a < m) (hb : 0 ≤ b ∧ b < m) (na : ¬ Cl rs A a) (nb : ¬ Cl rs A b) (h : Cl rs (A ++ [a]) b) : Cl rs (A ++ [b]) a := by
  have oc := clo_ok m rs A
  have hin : ∀ x : Int, 0 ≤ x ∧ x < m → ¬ Cl rs A x → x ∈ restM m (clo m rs A) := fun x h0 q => List.mem_filter.mpr ⟨mem_mks.mpr h0, by rw [decide_eq_false fun z => q ((mem_clo ho hA).mp z)]; rfl⟩
  have := noPair_iff.mp (List.all_eq_true.mp hw _ (List.mem_filter.mpr ⟨sets_all oc, clo_shut ho hA⟩)) a (hin a ha na) b (hin b hb nb)
  unfold badE arE at this
  have ga : ∀ k : Int, 0 ≤ k ∧ k < m → ∀ x : Int, x ∈ clo m rs (nrm m (clo m rs A ++ [k])) ↔ Cl rs (A ++ [k]) x := fun k hk x => by
    have sr := snoc_rg oc hk.1 hk.2
    rw [mem_clo ho (nrm_ok m _).rg]
    constructor
    · refine Cl.mono fun y hy => ?_
      rcases List.mem_append.mp ((mem_nrm sr).mp hy) with e | e
      · exact Cl.mono (fun z hz => .base (List.mem_append_left _ hz)) ((mem_clo ho hA).mp e)
      · exact .base (List.mem_append_right _ e)
    · refine Cl.mono fun y hy => .base ((mem_nrm sr).mpr ?_)
      rcases List.mem_append.mp hy with e | e
      · exact List.mem_append_left _ ((mem_clo ho hA).mpr (.base e))
      · exact List.mem_append_right _ e
  rw [decide_eq_true ((ga a ha b).mpr h), Bool.true_and, Bool.not_eq_false', decide_eq_true_eq] at this
  exact (ga b hb a).mp this
/-- each mark is not had from those before it -/
def Indep (rs : Rules) : List Int → List Int → Prop
  | _, [] => True
  | A, x :: xs => ¬ Cl rs A x ∧ Indep rs (A ++ [x]) xs
theorem Indep.snoc {rs : Rules} : ∀ {xs A : List Int} {x : Int}, Indep rs A xs → ¬ Cl rs (A ++ xs) x → Indep rs A (xs ++ [x])
  | [], A, x, _, h => ⟨by rw [List.append_nil] at h; exact h, True.intro⟩
  | y :: xs, A, x, i, h => ⟨i.1, i.2.snoc (by rw [List.append_assoc]; exact h)⟩
theorem first_had {rs : Rules} {x : Int} : ∀ (ts A : List Int), ¬ Cl rs A x → Cl rs (A ++ ts) x → ∃ t1 t t2, ts = t1 ++ t :: t2 ∧ ¬ Cl rs (A ++ t1) x ∧ Cl rs (A ++ t1 ++ [t]) x
  | [], A, h, c => absurd (by rw [List.append_nil] at c; exact c) h
  | t :: ts, A, h, c => by
    by_cases q : Cl rs (A ++ [t]) x
    · exact ⟨[], t, ts, rfl, by rw [List.append_nil]; exact h, by rw [List.append_nil]; exact q⟩
    · obtain ⟨t1, u, t2, e, h1, h2⟩ := first_had ts (A ++ [t]) q (by rw [List.append_assoc]; exact c)
      exact ⟨t :: t1, u, t2, by rw [e]; rfl, by rw [List.append_assoc] at h1; exact h1, by rw [List.append_assoc A] at h2; exact h2⟩
theorem steinitz {m : Nat} {rs : Rules} (ho : OkR m rs) (hw : hasEx m rs = true) : ∀ (xs A ts : List Int), (∀ x ∈ xs, 0 ≤ x ∧ x < m) → (∀ x ∈ A, 0 ≤ x ∧ x < m) → (∀ x ∈ ts, 0 ≤ x ∧ x < m) → Indep rs A xs → (∀ x ∈ xs, Cl rs (A ++ ts) x) → xs.length ≤ ts.length
  | [], _, _, _, _, _, _, _ => Nat.zero_le _
  | x :: xs, A, ts, hx, hA, ht, i, h => by
    obtain ⟨t1, t, t2, e, h1, h2⟩ := first_had ts A i.1 (h x List.mem_cons_self)
    subst e
    have ht1 : ∀ y ∈ A ++ t1, 0 ≤ y ∧ y < m := fun y hy => (List.mem_append.mp hy).elim (hA y) fun q => ht y (List.mem_append_left _ q)
    have nt : ¬ Cl rs (A ++ t1) t := fun q => h1 (Cl.mono (fun y hy => (List.mem_append.mp hy).elim .base fun z => by rw [List.mem_singleton.mp z]; exact q) h2)
    have ht' := ht t (List.mem_append_right _ List.mem_cons_self)
    have h3 := ex_pair ho hw ht1 ht' (hx x List.mem_cons_self) nt h1 h2
    have ih := steinitz ho hw xs (A ++ [x]) (t1 ++ t2) (fun y hy => hx y (List.mem_cons_of_mem _ hy)) (fun y hy => (List.mem_append.mp hy).elim (hA y) fun q => by rw [List.mem_singleton.mp q]; exact hx x List.mem_cons_self)
      (fun y hy => ht y ((List.mem_append.mp hy).elim (List.mem_append_left _) fun q => List.mem_append_right _ (List.mem_cons_of_mem _ q))) i.2 fun y hy => Cl.mono (fun z hz => ?_) (h y (List.mem_cons_of_mem _ hy))
    · rw [List.length_append] at ih
      rw [List.length_cons, List.length_append, List.length_cons]
      omega
    · rcases List.mem_append.mp hz with q | q
      · exact .base (List.mem_append_left _ (List.mem_append_left _ q))
      · rcases List.mem_append.mp q with q | q
        · exact .base (List.mem_append_right _ (List.mem_append_left _ q))
        · rcases List.mem_cons.mp q with q | q
          · rw [q]
            refine Cl.mono (fun w hw => .base ?_) h3
            rcases List.mem_append.mp hw with u | u
            · rcases List.mem_append.mp u with u | u
              · exact List.mem_append_left _ (List.mem_append_left _ u)
              · exact List.mem_append_right _ (List.mem_append_left _ u)
            · exact List.mem_append_left _ (List.mem_append_right _ u)
          · exact .base (List.mem_append_right _ (List.mem_append_right _ q))
theorem rank_indep {m : Nat} {rs : Rules} (ho : OkR m rs) : ∀ ss : List Int, (∀ x ∈ ss, 0 ≤ x ∧ x < m) → Indep rs [] (rankF m rs ss) := fun ss => by
  refine snoc_ind (motive := fun (ss : List Int) => (∀ x ∈ ss, 0 ≤ x ∧ x < m) → Indep rs [] (rankF m rs ss)) (fun _ => True.intro) (fun ss x ih h => ?_) ss
  have hl : ∀ y ∈ ss, 0 ≤ y ∧ y < m := fun y hy => h y (List.mem_append_left _ hy)
  have ih := ih hl
  rw [rankF_snoc]
  by_cases q : x ∈ clo m rs (rankF m rs ss)
  · rw [decide_eq_true q, if_pos rfl]
    exact ih
  · rw [decide_eq_false q]
    exact ih.snoc fun z => q ((mem_clo ho fun y hy => hl y ((rankF_sub m rs ss).1 y hy)).mpr z)
theorem rank_low {m : Nat} {rs : Rules} (ho : OkR m rs) (hw : hasEx m rs = true) {s : List Int} (os : OkS m s) (h : enough m rs (mks m) s = true) : rankM m rs (mks m) ≤ s.length := by
  have hm : ∀ x ∈ mks m, 0 ≤ x ∧ x < m := fun x hx => mem_mks.mp hx
  refine steinitz ho hw _ [] s (fun x hx => hm x ((rankF_sub m rs _).1 x hx)) (fun x hx => by cases hx) os.rg (rank_indep ho _ hm) fun x hx => ?_
  exact (enough_iff ho os).mp h x ((rankF_sub m rs _).1 x hx)
theorem sum_zeros : ∀ l : List Int, (∀ x ∈ l, x = 0) → l.sum = 0
  | [], _ => rfl
  | a :: l, h => by
    rw [List.sum_cons, h a List.mem_cons_self, sum_zeros l fun b hb => h b (List.mem_cons_of_mem _ hb)]
    rfl
theorem rank_le (m : Nat) (rs : Rules) : rankM m rs (mks m) ≤ m := by
  have := (rankF_sub m rs (mks m)).2
  rw [mks_len] at this
  exact this
theorem whole_ok {m : Nat} {rs : Rules} (ho : OkR m rs) : WholeOk m rs := by
  have h5 := ho.m5
  constructor
  · exact fun hw => geo_counts ho hw
  · intro hw
    have le := (ends_ok (m := m) (rs := rs)).len
    rw [geo_counts ho hw]
    exact alt_due ⟨m, by omega⟩ ⟨(endsM rs (mks m)).length, by omega⟩ le
  · intro hw
    have le := rank_le m rs
    unfold atI ixN
    rw [if_pos (by omega), List.length_map, counts_len, if_pos (by omega), Option.bind_some, Int.toNat_natCast, List.getElem?_map, counts_at le]
    show some (D.i _) = some (D.i _)
    congr 2
    unfold basesM nSz
    rw [← List.countP_eq_length_filter]
    congr 1
    refine List.countP_congr fun s _ => ?_
    rw [Bool.and_eq_true, Bool.and_eq_true, decide_eq_true_eq, decide_eq_true_eq, decide_eq_true_eq, clo_whole]
    exact and_congr_left fun _ => by omega
  · intro hw
    have le := rank_le m rs
    refine sum_zeros _ fun x hx => ?_
    obtain ⟨k, hk⟩ := List.mem_iff_getElem?.mp hx
    rw [List.getElem?_take] at hk
    split at hk
    · next hk1 =>
      rw [counts_at (by omega)] at hk
      rw [← Option.some.inj hk]
      have : nSz (enough m rs (mks m)) k (setsOf m) = 0 := by
        unfold nSz
        rw [List.countP_eq_zero]
        intro s hs q
        rw [Bool.and_eq_true, decide_eq_true_eq] at q
        have := rank_low ho hw (mem_setsOf hs) q.2
        omega
      rw [this]
      rfl
    · cases hk
end
end G30
set_option Elab.async false
set_option linter.all false
set_option maxRecDepth 100000
set_option maxHeartbeats 4000000
set_option autoImplicit false
namespace G30
open PySem PySem.Spec PyProof.Rows L2 LamX StX SlX
section
variable {P : Program} {w : World} {K : PySem.W.Frag} {mg : Str → Option Value} {base : Heap}
theorem chance_bd {m : Nat} {rs : Rules} {g cs : List Int} (h5 : m ≤ 5) (hl : cs.length = m) (hc : ∀ c ∈ cs, 0 ≤ c ∧ c ≤ 12) : 0 ≤ (chance m rs g cs).1 ∧ (chance m rs g cs).1 < 2 ^ 64 ∧ 0 ≤ (chance m rs g cs).2 ∧ (chance m rs g cs).2 < 2 ^ 64 := by
  have hP := pow_pos12 m
  have a0 := chF_nn hc (enough m rs g) (setsOf m)
  have h12 := pow12 h5
  have a1 : ∀ ss : List (List Int), chF ss (enough m rs g) cs ≤ 248832 * ss.length := fun ss => by
    refine snoc_ind (motive := fun ss => chF ss (enough m rs g) cs ≤ 248832 * ss.length) (Int.le_refl _) (fun ss s ih => ?_) ss
    rw [chF_snoc, List.length_append, List.length_singleton]
    have z := (prod_bd _ (rowI_bd (s := s) hc)).2
    rw [rowI_len, hl] at z
    split
    · omega
    · omega
  have a1 := a1 (setsOf m)
  rw [len_setsOf] at a1
  have t4 := two_pow_le (Nat.le_refl m) h5
  have hp2 : prodI (List.replicate m 12) ≤ 248832 := by rw [prod_rep]; exact h12
  have gp : (0 : Int) < (Int.gcd (chF (setsOf m) (enough m rs g) cs) (prodI (List.replicate m 12)) : Int) := by
    have : 0 < Int.gcd (chF (setsOf m) (enough m rs g) cs) (prodI (List.replicate m 12)) := Int.gcd_pos_of_ne_zero_right _ (by omega)
    omega
  have d1 := Int.ediv_le_self (Int.gcd (chF (setsOf m) (enough m rs g) cs) (prodI (List.replicate m 12)) : Int) a0
  have d2 := Int.ediv_le_self (Int.gcd (chF (setsOf m) (enough m rs g) cs) (prodI (List.replicate m 12)) : Int) (Int.le_of_lt hP)
  have d3 := Int.ediv_nonneg a0 (Int.le_of_lt gp)
  have d4 := Int.ediv_nonneg (Int.le_of_lt hP) (Int.le_of_lt gp)
  have t5 : ((2 ^ m : Nat) : Int) ≤ 32 := by omega
  refine ⟨d3, ?_, d4, ?_⟩
  · show chF (setsOf m) (enough m rs g) cs / _ < _
    omega
  · show prodI (List.replicate m 12) / _ < _
    omega
theorem rep6_bd (m : Nat) : (List.replicate m (6 : Int)).length = m ∧ ∀ c ∈ List.replicate m (6 : Int), 0 ≤ c ∧ c ≤ 12 := ⟨List.length_replicate, fun c hc => by rw [List.eq_of_mem_replicate hc]; decide⟩
theorem sure_bd (m : Nat) (t : List Int) : (sureM m t).length = m ∧ ∀ c ∈ sureM m t, 0 ≤ c ∧ c ≤ 12 := by
  unfold sureM
  refine ⟨by rw [List.length_map, mks_len], fun c hc => ?_⟩
  obtain ⟨k, _, rfl⟩ := List.mem_map.mp hc
  split <;> decide
def P_chances (ds : List D) : Prop := ∃ (m : Nat) (rs : Rules) (g : List Int), OkR m rs ∧ OkS m g ∧ ds = [bkD m rs, sD g]
def R_true (_ : List D) (d : D) : Prop := d = .b true
theorem has_chances_right (Z : Zk K mg) (TB : TbF K mg base) : Has P w K mg base 8 "_law_chances_right" (spX (tabsT K) (He.ga K "Book") P_chances R_true) := by
  have hN : (["_law_draws", "_law_book", "_law_goal", "_law_told", "_law_many", "_law_turn", "_law_some", "_law_sure", "_law_mark"] : List Str).Nodup := by decide +kernel
  refine has_X (N := ["_law_draws", "_law_book", "_law_goal", "_law_told", "_law_many", "_law_turn", "_law_some", "_law_sure", "_law_mark"]) (ps := ["_law_draws", "_law_book", "_law_goal"]) (d := dF 90 "_law_chances_right" "_law_chances_right") (Z.d 70 rfl rfl rfl) (Z.glo 61 rfl) ⟨rfl, rfl, rfl, hN, rfl, by decide +kernel, by decide +kernel⟩ (fun ds ⟨_, _, _, _, _, h⟩ => by rw [h]; rfl) (fun _ _ _ _ _ _ us hl => match us, hl with | [_, _, _], _ => rfl) (fun f cd A outer s0 H E hr0 p ds dr hP Q q => ?_)
  obtain ⟨m, rs, g, ho, hg, rfl⟩ := hP
  have h5 := ho.m5
  have h0 := ho.m0
  have ok : ChancesOk m rs g := chances_ok
  have r6 := rep6_bd m
  have cb := chance_bd (rs := rs) (g := g) h5 r6.1 r6.2
  have hcnt : 0 ≤ (counts m rs g).sum ∧ (counts m rs g).sum ≤ 32 := by
    rw [sum_counts]
    have l1 : (setsOf m).countP (enough m rs g) ≤ (setsOf m).length := List.countP_le_length
    rw [len_setsOf] at l1
    have t4 := two_pow_le (Nat.le_refl m) h5
    omega
  have hlen : ((setsOf m).length : Int) ≤ 32 := by
    rw [len_setsOf]
    have t4 := two_pow_le (Nat.le_refl m) h5
    omega
  refine sd_par (i := 3) (j := 4) (d1 := sD [(chance m rs g (List.replicate m 6)).1, (chance m rs g (List.replicate m 6)).2]) (d2 := .i (counts m rs g).sum) rfl hN rfl rfl (by decide) rfl rfl (ad_cons (pd_call (has_chance Z TB) hr0 (ad_cons (pdv 1) (ad_cons (pdv 2) (ad_cons (pd_repC (pd_tup (ad_cons pd_int ad_nil) (by show 1 ≤ 2 ^ 24; decide)) (pd_bkM Z.bk (pdv 1)) h0 (by omega)) ad_nil))) ⟨_, _, _, _, ho, hg, r6.1, r6.2, rfl, rfl⟩) (ad_cons (pd_sumT rfl Z.sum (pd_call (has_counts Z TB) hr0 (ad_cons (pdv 1) (ad_cons (pdv 2) ad_nil)) ⟨_, _, _, ho, hg, rfl, rfl⟩)) ad_nil)) rfl ?_
  refine sd_skip (TD.is (td_neI (pd_mul (pd_ixT (d := .i (chance m rs g (List.replicate m 6)).1) (pdv 3) pd_int rfl) (pd_lenL Z.len (PL.r (pl_callH (has__law_sets Z TB) hr0 (ad_cons (pd_bkM Z.bk (pdv 1)) ad_nil) (fun _ _ => ⟨m, h5, rfl, rfl⟩)))) (.inl ⟨by omega, by omega⟩)) (pd_mul (pd_ixT (d := .i (chance m rs g (List.replicate m 6)).2) (pdv 3) pd_int rfl) (pdv 4) (.inl ⟨by omega, by omega⟩))) ?_) ?_
  · rw [List.length_map, decide_eq_true ok.half]
    rfl
  refine sd_for (S := fun b => b = p) (is := [5]) (List.range 4) (fun (k : Nat) => D.i (0 + (k : Int))) (fun _ H' => DR H' p) (fun _ => [some (.r p), some (bkD m rs), some (sD g), none, none, none, none, none, none]) (fun _ (k : Nat) => [some (.r p), some (bkD m rs), some (sD g), none, none, some (.i (0 + (k : Int))), none, none, none]) PassesOwn.never rfl
    (ID.is (id_range1 Z.range pd_int ⟨by decide, by decide⟩) rfl) (pg_name (i := 5) hN rfl (by first | exact .inl rfl | exact .inr rfl)) (fun k s _ => gd_name) (fun H2 e => dr.ex e) (gle (by repeat' first | exact True.intro | exact rfl | refine And.intro ?_ ?_)) (fun k H2 H3 h e => h.ex e) ?_ ?_
  · rintro H2 e2 k a H' ha eb dH
    refine sd_setX (i := 6) (R := fun d => ∃ s, d = sD s ∧ OkS m s) hN rfl (by first | exact .inl rfl | exact .inr rfl) dH (PX.imp (px_call2 (i := 0) (R1 := fun d => d = .i 2) (has_set Z) hr0 rfl (by first | exact .inl rfl | exact .inr (.inl rfl) | exact .inr (.inr rfl)) rfl (fun H => pd_bkM Z.bk (pdv 1)) (px_pd fun H => pd_int) (fun d hd => ⟨m, 2, h5, by decide, by rw [hd]⟩)) ?_) ?_
    · rintro d ⟨d1, h1, h2⟩
      subst h1
      exact h2 m 2 rfl
    rintro d H3 e3 d3 ⟨t, rfl, ot⟩
    have rb := sure_bd m t
    refine sd_set (i := 7) (d := sD (sureM m t)) hN rfl (by first | exact .inl rfl | exact .inr rfl) (PD.is (pd_tupleL Z.tuple_ (PL.r (pl_lc (own := [("_law_mark", 8)]) (is := [8]) (mks m) (D.i) _ _ rfl hN (ID.is (id_range1 Z.range (pd_bkM Z.bk (pdv 1)) ⟨by omega, by omega⟩) (rg_mks m)) (blk_ok (by kernel_rfl)) (fun _ _ _ _ _ => pg_name (i := 8) hN rfl (by first | exact .inl rfl | exact .inr rfl)) (fun a ha => (gd_name)) (by decide) (fun a ha s0 H0 C cl fp => (pd_ite (td_in (pdv 8) (pdv 6)) pd_int pd_int)) ?_))) ?_) ?_
    · rw [mks_len]
      show m < 2 ^ 24
      omega
    · unfold sureM
      show D.t _ = D.t (List.map D.i _)
      rw [List.map_map]
      rfl
    refine sd_skip (TD.is (td_neS (s := [(chance m rs g (sureM m t)).1, (chance m rs g (sureM m t)).2]) (t := if enough m rs g t = true then [1, 1] else [0, 1]) hr0 (pd_call (has_chance Z TB) hr0 (ad_cons (pdv 1) (ad_cons (pdv 2) (ad_cons (pdv 7) ad_nil))) ⟨_, _, _, _, ho, hg, rb.1, rb.2, rfl, rfl⟩) (pd_if (k := enough m rs g t) (td_val (pd_call (has_follows Z) hr0 (ad_cons (pdv 1) (ad_cons (pd_tup (ad_cons (pdv 6) (ad_cons (pdv 2) ad_nil)) (by show 2 ≤ 2 ^ 24; decide)) ad_nil)) ⟨_, _, (t, g), ho, ot, hg, rfl, rfl⟩))
      (fun z => by rw [if_pos z]; exact pd_tup (ad_cons pd_int (ad_cons pd_int ad_nil)) (by show 2 ≤ 2 ^ 24; decide)) (fun z => by rw [if_neg (by rw [z]; exact Bool.false_ne_true)]; exact pd_tup (ad_cons pd_int (ad_cons pd_int ad_nil)) (by show 2 ≤ 2 ^ 24; decide)))) ?_) ?_
    · have z := ok.sure t ot
      rw [z]
      cases enough m rs g t <;> rfl
    exact sd_nil fun σ H4 e4 s4 => ⟨eb.trans (e3.trans (Ex.to e4)), s4.gle (gle (by repeat' first | exact True.intro | exact rfl | refine And.intro ?_ ?_)), d3.ex e4⟩
  · intro H' eb dH
    exact sd_ret pd_bl fun v H2 e2 a2 => q _ v H2 (eb.trans (Ex.to e2)) (dH.ex e2) rfl a2
end
end G30
set_option Elab.async false
set_option linter.all false
set_option maxRecDepth 100000
set_option maxHeartbeats 4000000
set_option autoImplicit false
namespace G30
open PySem PySem.Spec PyProof.Rows L2 LamX StX SlX
section
variable {X : Cx} {T : List (Addr × Str)} {B p : Addr} {Γ : List (Option D)} {H : Hp} {d : D} {ds : List D} {a b : Expr} {pos pn po pp : Pos} {F : Ends} {rest body : List Stmt} {x : Str}
/-- f(list, b), the list new -/
theorem pil_callL {j k N : Nat} {C : Hp → List D → Nat → Prop} (F : Has X.prog X.w X.K X.mg X.base j x (spHL T B C)) (hr : Room k X.A) (ha : PL X T B a Γ H ds) (hb : ∀ H1, PD X T B b Γ H1 d) (hP : ∀ (p : Addr) (vs : List V) (H1 H2 : Hp), H1 p = some (.lst vs) → AtL B H1 ds vs → Ex T H1 H2 → C H2 [.r p, d] N) (hjk : j ≤ k := by decide) (hg : Gl X x := by rfl) (hd : (x == ("__debug__" : Str)) = false := by decide)
    (he : starEach [a, b] X.env = (false, eval a X.env) :: starEach [b] X.env := by rfl) (he2 : starEach [b] X.env = (false, eval b X.env) :: starEach [] X.env := by rfl) (hpl : (backTo pos (starEach [b] X.env)).any (·.1) = false := by rfl) : PIL X T B (.Call (.Name x pp) [a, b] [] pos) Γ H N := fun σ H1 x1 s Q q => by
  obtain ⟨f, hm, hk, F⟩ := F
  exact PE.w (pe_callR F (hr.mono hjk) hk hg hm pass0 (pa_cons (peS X a) (pa_cons (peS X b) pa_nil he2) he) hd he hpl) (ha σ H1 x1 s _ fun l vs H2 hn e2 hl hv => hb H2 σ H2 (Exb.refl _) (s.mono e2) _ fun v H3 e3 a3 =>
    ⟨[.r l, d], N, ⟨_, [v], rfl, rfl, AtL.one a3⟩, e3.tabs (e2.tabs s.tabs), hP l vs H2 H3 hl hv e3, fun p ns H' hn2 e4 hp hl2 => q p ns H' (e2.free (e3.free hn2)) (e2.trans (e3.trans e4)) hp hl2⟩)
/-- f(draws, a, b) -/
theorem px_call3 {i j k : Nat} {y : Str} {pn pp : Pos} {c e : Expr} {d0 d1 : D} {Pre : List D → Prop} {R : List D → D → Prop} (G : Has X.prog X.w X.K X.mg X.base j y (spX T B Pre R)) (hr : Room k X.A) (hi : X.N[i]? = some x) (hv : Vis X.env.scope x) (hΓ : Γ[i]? = some (some (.r p))) (h0 : ∀ H, PD X T B c Γ H d0) (h1 : ∀ H, PD X T B e Γ H d1) (hP : Pre [d0, d1]) (hjk : j ≤ k := by decide) (hg : Gl X y := by rfl) (hd : (y == ("__debug__" : Str)) = false := by decide) (hdx : (x == ("__debug__" : Str)) = false := by decide) (hcx : (x == ("__classdict__" : Str)) = false := by decide)
    (he : starEach [.Name x pn, c, e] X.env = (false, eval (.Name x pn) X.env) :: starEach [c, e] X.env := by rfl) (he1 : starEach [c, e] X.env = (false, eval c X.env) :: starEach [e] X.env := by rfl) (he2 : starEach [e] X.env = (false, eval e X.env) :: starEach [] X.env := by rfl) (hpl : (backTo pos (starEach [c, e] X.env)).any (·.1) = false := by rfl) :
    PX X T B p (.Call (.Name y pp) [.Name x pn, c, e] [] pos) Γ (fun d => R [d0, d1] d) := fun σ H1 dr s Q q => by
  obtain ⟨f, hm, hk, G⟩ := G
  refine PE.w (pe_callR G (hr.mono hjk) hk hg hm pass0 (pa_cons (pe_var hi hv hdx hcx) (pa_cons (peS X c) (pa_cons (peS X e) pa_nil he2) he1) he) hd he hpl) ⟨_, dkv i s hΓ, h0 H1 σ H1 (Exb.refl _) s _ fun u0 H0 e0 a0 => h1 H0 σ H0 (Exb.refl _) (s.mono e0) _ fun v H2 e2 a2 => ⟨p, [u0, v], [d0, d1], rfl, (dr.ex e0).ex e2, ⟨u0, [v], rfl, a0.mono e2, AtL.one a2⟩, e2.tabs (e0.tabs s.tabs), hP, fun d' u H3 e3 d3 r3 a3 => q d' u H3 ((Ex.to e0).trans ((Ex.to e2).trans e3)) d3 r3 a3⟩⟩
/-- if not a or b: .., a draws and is true, b is false -/
theorem sd_skipX (dr : DR H p) (h : PX X T B p a Γ (fun d => d = .b true)) (g : ∀ H1, TD X T B b Γ H1 false) (k : ∀ H1, Exb T (fun b => b = p) H H1 → DR H1 p → SD X T B rest Γ H1 F) (he : ∀ whole, isTrue a X.env whole = (do let v ← whole; standAt a.pos; holding [v] (truthy v)) := by intro _; rfl) : SD X T B (.If (.BoolOp .Or [.UnaryOp .Not a pn, b] po) body [] pos :: rest) Γ H F := fun σ H1 x s => by
  refine wS_cons (ps_if (pw_or (pt_not (pt_val (peS X a) he)) (pw_or1 (ptS X b))).pt (psS X body) (psS X [])) ?_
  refine h σ H1 (dr.ex x) s _ fun d v H2 e2 d2 r2 a2 => ?_
  subst r2
  refine ⟨true, a2, ?_⟩
  show (if (!true) = true then _ else _)
  rw [if_neg (by decide)]
  refine g H2 σ H2 (Exb.refl _) (s.mono e2) _ fun H3 e3 => ?_
  rw [if_neg Bool.false_ne_true]
  refine PSs.w pss_nil ?_
  exact k H3 ((Ex.to x).trans (e2.trans (Ex.to e3))) (d2.ex e3) σ H3 (Exb.refl _) ((s.mono e2).mono e3)
end
section
variable {P : Program} {w : World} {K : PySem.W.Frag} {mg : Str → Option Value} {base : Heap}
theorem bits_lt {z : Int} {n : Nat} (h : Builtin.Int.intBits z ≤ n) : z.natAbs < 2 ^ n := by
  unfold Builtin.Int.intBits at h
  by_cases e : z = 0
  · subst e
    exact Nat.pow_pos (by decide)
  · rw [if_neg (by simpa using e)] at h
    have h1 : z.natAbs < 2 ^ (z.natAbs.log2 + 1) := Nat.lt_log2_self
    exact Nat.lt_of_lt_of_le h1 (Nat.pow_le_pow_right (by decide) h)
/-- the script, and true in the end -/
def spLaw (K : PySem.W.Frag) : Sp := fun vs H Q _ => ∃ (a : Addr) (ns : List Int), vs = [.ref a] ∧ SqL K H a (ns.map V.int) ∧ Tabs (tabsT K) H ∧ ns.length ≤ 63 ∧ (∀ z ∈ ns, Builtin.Int.intBits z ≤ 1048576) ∧ ∀ H', Q (.bl true) H'
theorem cut63 (ns : List Int) (h : ns.length ≤ 63) : cutD (ns.map D.i) none (some 63) = ns.map D.i := by
  have := cut_take ns 63
  rw [show ((63 : Nat) : Int) = 63 from rfl] at this
  rw [this, List.take_of_length_le h]
theorem law_body (Z : Zk K mg) (TB : TbF K mg base) {f : Addr} {cd : Value} {A : Around} {outer : List Env} {s0 : Shared} {H : Hp} {E : XK} (hr0 : Room 20 (bx P w K mg base ["_law_script", "_law_draws", "_law_turn", "_law_marks", "_law_book", "_law_goal"] (dF 94 "law" "law") f cd A outer s0 H E).A)
    {a : Addr} {ns : List Int} (hS : SqL K H a (ns.map V.int)) (hl : ns.length ≤ 63) (hb : ∀ z ∈ ns, Builtin.Int.intBits z ≤ 1048576) {Q : VK} (q : ∀ H', Q (.bl true) H') :
    SD (bx P w K mg base ["_law_script", "_law_draws", "_law_turn", "_law_marks", "_law_book", "_law_goal"] (dF 94 "law" "law") f cd A outer s0 H E) (tabsT K) (He.ga K "Book") (dF 94 "law" "law").body (startG ["_law_script", "_law_draws", "_law_turn", "_law_marks", "_law_book", "_law_goal"] [.r a]) H { nx := fun _ H' => Q .non H', rt := Q } := by
  have hN : (["_law_script", "_law_draws", "_law_turn", "_law_marks", "_law_book", "_law_goal"] : List Str).Nodup := by decide +kernel
  obtain ⟨bz, hz⟩ : ∃ e : Nat, 1048576 = e := ⟨_, rfl⟩
  have hb : ∀ z ∈ ns, Builtin.Int.intBits z ≤ bz := fun z h => hz ▸ hb z h
  have bt : ∀ n ∈ ns, BT bz n := fun n hn => bits_lt (hb n hn)
  refine sd_setIL (N := 480) (i := 1) hN rfl (by first | exact .inl rfl | exact .inr rfl) (pil_callL (d := sD [1009, 1013, 1000033, 1000037]) (has_pool Z) hr0 (PL.is (pl_slL (h := some 63) (prv 0 hS (AtL.of_ints ns)) od_none (od_some pd_int)) (cut63 ns hl)) (fun H1 => pd_tup (ad_cons pd_int (ad_cons pd_int (ad_cons pd_int (ad_cons pd_int ad_nil)))) (by show 4 ≤ 2 ^ 24; decide)) ?_) ?_
  · intro p vs H1 H2 hp hv e2
    rw [AtL.ints hv] at hp
    exact ⟨p, ns, bz, ⟨Ex.sql e2 (SqL.of hp), bt, hl, by omega, by omega⟩, rfl, rfl⟩
  intro p ds H1 hn1 e1 hp _
  have dr : DR H1 p := ⟨ds, hp⟩
  refine sd_for (S := fun b => b = p) (is := [2]) (List.range 2) (fun (k : Nat) => D.i (0 + (k : Int))) (fun _ H' => DR H' p) (fun _ => [some (.r a), some (.r p), none, none, none, none]) (fun _ (k : Nat) => [some (.r a), some (.r p), some (.i (0 + (k : Int))), none, none, none]) PassesOwn.never rfl
    (ID.is (id_range1 Z.range pd_int ⟨by decide, by decide⟩) rfl) (pg_name (i := 2) hN rfl (by first | exact .inl rfl | exact .inr rfl)) (fun k s _ => gd_name) (fun H2 e => dr.ex e) (gle (by repeat' first | exact True.intro | exact rfl | refine And.intro ?_ ?_)) (fun k H2 H3 h e => h.ex e) ?_ ?_
  · rintro H2 e2 k t H' ht eb dH
    refine sd_setX (i := 3) (R := fun d => ∃ m : Nat, d = .i m ∧ 0 < m ∧ m ≤ 5) hN rfl (by first | exact .inl rfl | exact .inr rfl) dH (PX.imp (px_addL (R1 := fun d => ∃ r : Int, d = .i r ∧ 0 ≤ r ∧ r < 5) (fun H => pd_int) (PX.imp (px_call1 (i := 1) (R1 := fun d => d = .i 5) (has_take Z) hr0 rfl (by first | exact .inl rfl | exact .inr (.inl rfl) | exact .inr (.inr rfl)) rfl (px_pd fun H => pd_int) (fun d hd => ⟨5, by rw [hd], by decide⟩)) ?_)) ?_) ?_
    · rintro d ⟨d1, h1, h2⟩
      subst h1
      obtain ⟨r, rfl, r0, r1⟩ := take_of h2
      exact ⟨r, rfl, r, rfl, r0, r1⟩
    · rintro d ⟨n, rfl, r, hr, r0, r1⟩
      injection hr with hr
      exact ⟨(1 + n).toNat, by rw [Int.toNat_of_nonneg (by omega)], by omega, by omega⟩
    rintro d H3 e3 d3 ⟨m, rfl, m0, m5⟩
    refine sd_setX (i := 4) (R := fun d => ∃ rs, d = bkD m rs ∧ OkR m rs) hN rfl (by first | exact .inl rfl | exact .inr rfl) d3 (px_book (R := fun _ => True) (Z.mkr 90 rfl) (fnr_Book Z) hr0 (Z.glo 66 rfl) (fun H => pdv 3) (PX.imp (px_call1 (i := 1) (R1 := fun d => d = .i m) (has_rules_of Z TB) hr0 rfl (by first | exact .inl rfl | exact .inr (.inl rfl) | exact .inr (.inr rfl)) rfl (px_pd fun H => pdv 3) (fun d hd => ⟨m, m0, m5, by rw [hd]⟩)) ?_)) ?_
    · rintro d ⟨d1, h1, h2⟩
      subst h1
      exact h2 m rfl m0 m5
    rintro d H4 e4 d4 ⟨rs, rfl, ho⟩
    refine sd_setX (i := 5) (R := fun d => ∃ g, d = sD g ∧ OkS m g) hN rfl (by first | exact .inl rfl | exact .inr rfl) d4 (PX.imp (px_call2 (i := 1) (R1 := fun d => d = .i 2) (has_set Z) hr0 rfl (by first | exact .inl rfl | exact .inr (.inl rfl) | exact .inr (.inr rfl)) rfl (fun H => pdv 3) (px_pd fun H => pd_int) (fun d hd => ⟨m, 2, m5, by decide, by rw [hd]⟩)) ?_) ?_
    · rintro d ⟨d1, h1, h2⟩
      subst h1
      exact h2 m 2 rfl
    rintro d H5 e5 d5 ⟨g, rfl, hg⟩
    refine sd_skip (TD.is (WD.t (wd_or (td_not (td_val (pd_call (has__law_spans_right Z TB) hr0 (ad_cons (pdv 4) (ad_cons (pdv 5) ad_nil)) ⟨_, _, _, ho, hg, spans_ok ho, rfl, rfl⟩))) (fun _ => wd_or1 (td_not (td_val (pd_call (has__law_ways_right Z TB) hr0 (ad_cons (pdv 4) ad_nil) ⟨_, _, ho, ways_ok ho, rfl, rfl⟩)))))) rfl) ?_
    refine sd_skipX d5 (PX.imp (px_call3 (i := 1) (has_chances_right Z TB) hr0 rfl (by first | exact .inl rfl | exact .inr (.inl rfl) | exact .inr (.inr rfl)) rfl (fun H => pdv 4) (fun H => pdv 5) ⟨_, _, _, ho, hg, rfl⟩) (fun d h => h)) (fun H => TD.is (td_not (td_val (pd_call (has__law_shares_right Z TB) hr0 (ad_cons (pdv 4) (ad_cons (pdv 5) ad_nil)) ⟨_, _, _, ho, hg, shares_ok ho hg, rfl, rfl⟩))) rfl) ?_
    intro H6 e6 d6
    refine sd_skip (TD.is (WD.t (wd_or (td_not (td_val (pd_call (has__law_whole_right Z TB) hr0 (ad_cons (pdv 4) ad_nil) ⟨_, _, ho, whole_ok ho, rfl, rfl⟩))) (fun _ => wd_or1 (td_not (td_val (pd_call (has__law_closures_right Z TB) hr0 (ad_cons (pdv 4) (ad_cons (pdv 5) ad_nil)) ⟨_, _, _, ho, hg, rfl, by rw [clos_right ho hg]⟩)))))) rfl) ?_
    exact sd_nil fun σ H7 e7 s7 => ⟨eb.trans (e3.trans (e4.trans (e5.trans (e6.trans (Ex.to e7))))), s7.gle (gle (by repeat' first | exact True.intro | exact rfl | refine And.intro ?_ ?_)), d6.ex e7⟩
  · intro H' eb dH
    exact sd_ret pd_bl fun v H2 e2 a2 => by
      have a2 : v = .bl true := a2
      subst a2
      exact q H2
end
end G30
set_option Elab.async false
set_option linter.all false
set_option maxRecDepth 100000
set_option maxHeartbeats 4000000
set_option autoImplicit false
namespace G30
open PySem PySem.Spec PyProof.Rows L2 LamX StX SlX
section
theorem tabs_nil {K : PySem.W.Frag} {H : Hp} (h : ∀ p ∈ tf.map (He.cT K), H p.2 = some (.tbl #[])) : Tabs (tabsT K) H := fun p hp => by
  have mk : ∀ d ∈ tf, ∀ q : Str, TabS H (He.cT K d).2 q := fun d hd q => ⟨#[], h _ (List.mem_map.mpr ⟨d, hd, rfl⟩), True.intro, fun pos cv hc => by cases hc⟩
  rcases List.mem_cons.mp hp with e | e
  · subst e
    exact mk ("in_order", none) (.head _) _
  · rw [List.mem_singleton.mp e]
    exact mk ("_law_sets", none) (.tail _ (.head _)) _
theorem law_at {l : PySem.W.OpenLaw} {w : World} {mg : Str → Option Value} {f : Addr} {h : Heap} (Y : hk.says w h) (G : h.Ns mainGlobals mg) (hm : mg ("law" : Str) = some (.ref f)) : ∃ K : PySem.W.Frag, K.In h ∧ LawAtS l w K CX0 21 63 "_law_script" mg f h := by
  obtain ⟨K, KX, c⟩ := Y
  have Z : Zk K mg := ⟨w, h, KX, G, c⟩
  have D : DefOk K mg "law" (dF 94 "law" "law") := Z.d 74 rfl rfl rfl
  obtain ⟨fd, F⟩ := D.fd
  have e1 : (dF 94 "law" "law").dvs K = [] := rfl
  have e2 : (dF 94 "law" "law").kws K = [] := rfl
  rw [e1, e2] at F
  have ef := hm.symm.trans (Z.glo 65 rfl)
  cases ef
  have hN : (["_law_script", "_law_draws", "_law_turn", "_law_marks", "_law_book", "_law_goal"] : List Str).Nodup := by decide +kernel
  have b := FunD.bindsA (ps := ["_law_script"]) F fun _ _ _ _ _ _ us hl => match us, hl with | [_], _ => rfl
  refine ⟨K, KX, fd, tf.map (He.cT K), spLaw K, fun p hp => ?_, fun p hp => ?_, fun p hp => ?_, fun s u => b s [u] rfl, fun H a ns hl hb hT hS => ⟨a, ns, rfl, hS, tabs_nil hT, hl, hb, fun _ => rfl⟩, fun base KB GB TBs => ?_⟩
  · obtain ⟨d, hd, rfl⟩ := List.mem_map.mp hp
    exact c.empty d hd
  · obtain ⟨d, hd, rfl⟩ := List.mem_map.mp hp
    exact c.out d hd
  · obtain ⟨d, hd, rfl⟩ := List.mem_map.mp hp
    exact PySem.W.codeHd_of_K KX (c.hd d hd)
  · have TB : TbF K mg base := ⟨TBs _ (List.mem_map.mpr ⟨("in_order", none), .head _, rfl⟩), TBs _ (List.mem_map.mpr ⟨("_law_sets", none), .tail _ (.head _), rfl⟩)⟩
    exact F.ok (N := ["_law_script", "_law_draws", "_law_turn", "_law_marks", "_law_book", "_law_goal"]) (k := 20) ⟨rfl, rfl, rfl, hN, rfl, by decide +kernel, by decide +kernel⟩ (fun vs H Q E ⟨a, ns, ev, _⟩ => by rw [ev]; rfl) fun cdv A outer s H vs Q E hr ⟨a, ns, ev, hS, hT, hl, hb, q⟩ => by
      subst ev
      exact ⟨_, PSs.nox (psS _ _), law_body Z TB (s0 := s) (H := H) (E := E) hr hS hl hb q _ H (Exb.refl _) (sl_start (ds := [.r a]) hT ⟨_, [], rfl, rfl, rfl⟩)⟩
end
end G30
set_option Elab.async false
set_option linter.all false
set_option maxRecDepth 100000
set_option maxHeartbeats 4000000
set_option autoImplicit false
namespace G30
open PySem PySem.Spec PyProof.Rows L2 LamX StX SlX
end G30
open PySem PySem.W PySem.Calls PyProof.Rows
theorem PySem.Challenge.cw_ifthenbooks_k89_whole_counts_ties_holds : PySem.Challenge.rw_ifthenbooks_k89_whole_counts_ties.Holds := by
  w_on; o_law
  refine HandSHeadRun.head_any (r := G30.R) (q := G30.qv) (H := G30.hk) (ob := G30.ob) (M := 20000) (loose := G30.loose) (d := HandSHeadRun.topDef G30.R.prog 94) (kwd := []) G30.ob_eq
    (by kernel_rfl) (fun s => by kernel_rfl) G30.run (by kernel_rfl) (by kernel_rfl) (by kernel_rfl) (by rfl) (by first | assumption | decide +kernel) (by decide +kernel) ⟨rfl, rfl, rfl, rfl, rfl, by decide +kernel⟩ ?hw ?hc
  case hw => w_witness2
  case hc =>
    refine LamX.walk_ofTsE (l := PySem.Challenge.rw_ifthenbooks_k89_whole_counts_ties) (n := 63) (k := 21) (x := "_law_script") (CX := fun _ => L2.CX0) rfl (by decide) (by kernel_rfl) ⟨rfl, by decide, by decide⟩ ?F (fun _ _ _ _ _ z => z)
    intro w mg fa h Y G hmg0
    have hmg : mg ("law" : PySem.Str) = some (.ref fa) := by
      have e : (HandSHeadRun.topDef G30.R.prog 94).name = ("law" : PySem.Str) := by kernel_rfl
      rw [← e]
      exact hmg0
    exact G30.law_at Y G hmg
namespace G30
end G30
